import PyProof.Rows.All
import Wide.All
import OpenK.AllK
import Wide.FinOn
import PyProof.EqAt
import PyProof.EqKinds
import PyProof.TupleCall
import HandS.ForMost
import HandS.ForSpec
import HandS.Flow
import HandS.Style
import HandS.Conv
import HandS.IsInst
import HandS.TupAny
import HandS.TupMul
import HandS.Zip
import HandS.Small
import HandS.Rev
import HandS.SortOrd
import HandS.Wide
import HandS.RaiseMore
import PyProof.Rows.IntBool
import PyProof.Rows.RuleB_bool
import PyProof.NeKinds
import HandS.WordsExc
import HandS.More
import KE.KRevSl
import PyProof.ReprLen
import PySem.Challenge.RW_heldaddresses_k04_numbers_and_addresses
set_option Elab.async false
set_option linter.all false
set_option maxRecDepth 100000
set_option maxHeartbeats 4000000
/-! HA1: data by value over the abstract heap: D, AH, Rep, Sim, results, judgements. -/
namespace HA
open PySem PySem.Spec PyProof.Rows L2

/-- data: tuples by value, mutable things as numbers of objects -/
inductive D where
  | non | bl (b : Bool) | int (i : Int) | str (x : Str) | tup (ds : List D) | ref (n : Nat) | cst (v : V)
deriving Inhabited

/-- the objects that change -/
inductive AObj where
  | lst (ds : List D)
  /-- a list that is only read (the script) -/
  | ro (ds : List D)
  | dK (kvs : List (Key × D))
  | dT (kvs : List (List Key × D))
  | ins (C : Addr) (fs : List (Str × D))
deriving Inhabited
abbrev AH := List AObj

section
variable (K : PySem.W.Frag) (μ : List Addr) (H : Hp)
mutual
def Rep : D → V → Prop
  | .non, v => v = .non
  | .bl b, v => v = .bl b
  | .int i, v => v = .int i
  | .str x, v => v = .str x
  | .ref n, v => ∃ a, μ[n]? = some a ∧ v = .ref a
  | .cst w, v => v = w
  | .tup ds, v => ∃ a vs, v = .ref a ∧ SqT K H a vs ∧ Reps ds vs
def Reps : List D → List V → Prop
  | [], vs => vs = []
  | d :: ds, vs => ∃ w ws, vs = w :: ws ∧ Rep d w ∧ Reps ds ws
end
def OOk (a : Addr) : AObj → Prop
  | .lst ds => ∃ vs, H a = some (.lst vs) ∧ Reps K μ H ds vs
  | .ro ds => ∃ vs, ((∃ o, H a = some (.frz o (.lst vs))) ∨ ∃ (o : Obj) (its : Array Value) (n : Nat), K.lookup a = some o ∧ o.cls = .type "list" ∧ o.dict = none ∧ o.data = .seq its n ∧ its.size ≤ sizeLine ∧ Vals vs its.toList) ∧ Reps K μ H ds vs
  | .dK kvs => ∃ kws : List (Key × V), H a = some (.dK kws) ∧ kvs.map (·.1) = kws.map (·.1) ∧ Reps K μ H (kvs.map (·.2)) (kws.map (·.2))
  | .dT kvs => ∃ kws : List (List Key × V), H a = some (.dT kws) ∧ kvs.map (·.1) = kws.map (·.1) ∧ Reps K μ H (kvs.map (·.2)) (kws.map (·.2))
  | .ins C fs => ∃ dx, ∃ fws : List (Str × V), H a = some (.ins C dx fws) ∧ fs.map (·.1) = fws.map (·.1) ∧ Reps K μ H (fs.map (·.2)) (fws.map (·.2))
def AObj.isRo : AObj → Bool
  | .ro _ => true
  | _ => false
structure Sim (ah : AH) : Prop where
  len : μ.length = ah.length
  nd : ∀ (n m : Nat) (a : Addr) (o o' : AObj), μ[n]? = some a → μ[m]? = some a → ah[n]? = some o → ah[m]? = some o' → o.isRo = false → o'.isRo = false → n = m
  ok : ∀ (n : Nat) (a : Addr) (o : AObj), μ[n]? = some a → ah[n]? = some o → OOk K μ H a o
  pos : 0 < ah.length
  ro0 : ∀ (n : Nat) (o : AObj), ah[n]? = some o → (o.isRo = true ↔ n = 0)
end
/-- tuples that are read stay -/
def TExt (K : PySem.W.Frag) (H H' : Hp) : Prop := ∀ a xs, SqT K H a xs → SqT K H' a xs
def EnvRel (K : PySem.W.Frag) (μ : List Addr) (H : Hp) (env : List (Option D)) (σ : L2.St) : Prop :=
  env.length = σ.length ∧ ∀ (i : Nat) (d : D), env[i]? = some (some d) → ∃ v, σ[i]? = some (some v) ∧ Rep K μ H d v

variable {K : PySem.W.Frag} {μ μ' μ'' : List Addr} {H H' H'' : Hp}
theorem TExt.refl : TExt K H H := fun _ _ h => h
theorem TExt.trans (a : TExt K H H') (b : TExt K H' H'') : TExt K H H'' := fun x xs h => b x xs (a x xs h)
theorem TExt.new {p : Addr} {o : HO} (h : H p = none) : TExt K H (upd H p o) := fun a xs q => by
  rcases q with (q | ⟨u, q⟩) | q
  · exact .inl (.inl (by rw [upd_ne (ne_of_none q h)]; exact q))
  · exact .inl (.inr ⟨u, by rw [upd_ne (ne_of_none q h)]; exact q⟩)
  · exact .inr q
theorem TExt.mut {p : Addr} {o : HO} (h : Mut (H p)) : TExt K H (upd H p o) := fun a xs q => by
  rcases q with (q | ⟨u, q⟩) | q
  · exact .inl (.inl (by rw [upd_ne (fun z => by subst z; rw [q] at h; exact h)]; exact q))
  · exact .inl (.inr ⟨u, by rw [upd_ne (fun z => by subst z; rw [q] at h; exact h)]; exact q⟩)
  · exact .inr q
theorem pre_get (h : μ <+: μ') {n : Nat} {a : Addr} (e : μ[n]? = some a) : μ'[n]? = some a := by
  obtain ⟨r, rfl⟩ := h
  rw [List.getElem?_append_left (List.getElem?_eq_some_iff.mp e).1]; exact e

mutual
theorem Rep.mono (hμ : μ <+: μ') (hH : TExt K H H') : ∀ (d : D) (v : V), Rep K μ H d v → Rep K μ' H' d v
  | .non, _, h => by simp only [Rep] at h ⊢; exact h
  | .bl b, _, h => by simp only [Rep] at h ⊢; exact h
  | .int i, _, h => by simp only [Rep] at h ⊢; exact h
  | .str x, _, h => by simp only [Rep] at h ⊢; exact h
  | .ref n, _, h => by
    simp only [Rep] at h ⊢
    obtain ⟨a, e, q⟩ := h
    exact ⟨a, pre_get hμ e, q⟩
  | .cst w, _, h => by simp only [Rep] at h ⊢; exact h
  | .tup ds, _, h => by
    simp only [Rep] at h ⊢
    obtain ⟨a, vs, e, q, r⟩ := h
    exact ⟨a, vs, e, hH _ _ q, Reps.mono hμ hH ds vs r⟩
theorem Reps.mono (hμ : μ <+: μ') (hH : TExt K H H') : ∀ (ds : List D) (vs : List V), Reps K μ H ds vs → Reps K μ' H' ds vs
  | [], _, h => by simp only [Reps] at h ⊢; exact h
  | d :: ds, _, h => by
    simp only [Reps] at h ⊢
    obtain ⟨w, ws, e, q, r⟩ := h
    exact ⟨w, ws, e, Rep.mono hμ hH d w q, Reps.mono hμ hH ds ws r⟩
end
theorem EnvRel.mono {env : List (Option D)} {σ : L2.St} (hμ : μ <+: μ') (hH : TExt K H H') (h : EnvRel K μ H env σ) : EnvRel K μ' H' env σ :=
  ⟨h.1, fun i d e => let ⟨v, q, r⟩ := h.2 i d e; ⟨v, q, r.mono hμ hH⟩⟩
theorem Reps.length : ∀ {ds : List D} {vs : List V}, Reps K μ H ds vs → ds.length = vs.length
  | [], _, h => by simp only [Reps] at h; subst h; rfl
  | d :: ds, _, h => by
    simp only [Reps] at h
    obtain ⟨w, ws, rfl, _, r⟩ := h
    simp [Reps.length r]
theorem Reps.nil : Reps K μ H [] [] := by simp only [Reps]
theorem Reps.cons {d : D} {v : V} {ds : List D} {vs : List V} (h : Rep K μ H d v) (t : Reps K μ H ds vs) : Reps K μ H (d :: ds) (v :: vs) := by
  simp only [Reps]; exact ⟨v, vs, rfl, h, t⟩
theorem Reps.append : ∀ {ds es : List D} {vs ws : List V}, Reps K μ H ds vs → Reps K μ H es ws → Reps K μ H (ds ++ es) (vs ++ ws)
  | [], _, _, _, h, t => by simp only [Reps] at h; subst h; exact t
  | d :: ds, es, _, ws, h, t => by
    simp only [Reps] at h
    obtain ⟨w, ws', rfl, q, r⟩ := h
    exact Reps.cons q (Reps.append r t)
theorem Reps.get : ∀ {ds : List D} {vs : List V} {i : Nat} {d : D}, Reps K μ H ds vs → ds[i]? = some d → ∃ v, vs[i]? = some v ∧ Rep K μ H d v
  | [], _, _, _, _, e => by simp at e
  | d :: ds, _, i, x, h, e => by
    simp only [Reps] at h
    obtain ⟨w, ws, rfl, q, r⟩ := h
    cases i with
    | zero => simp at e; subst e; exact ⟨w, rfl, q⟩
    | succ i =>
      obtain ⟨v, e1, e2⟩ := Reps.get (i := i) (d := x) r (by simpa using e)
      exact ⟨v, by simpa using e1, e2⟩
theorem Reps.getv : ∀ {ds : List D} {vs : List V} {i : Nat} {v : V}, Reps K μ H ds vs → vs[i]? = some v → ∃ d, ds[i]? = some d ∧ Rep K μ H d v
  | [], _, _, _, h, e => by simp only [Reps] at h; subst h; simp at e
  | d :: ds, _, i, x, h, e => by
    simp only [Reps] at h
    obtain ⟨w, ws, rfl, q, r⟩ := h
    cases i with
    | zero => simp at e; subst e; exact ⟨d, rfl, q⟩
    | succ i =>
      obtain ⟨v, e1, e2⟩ := Reps.getv (i := i) (v := x) r (by simpa using e)
      exact ⟨v, by simpa using e1, e2⟩
theorem Reps.take : ∀ {ds : List D} {vs : List V} (n : Nat), Reps K μ H ds vs → Reps K μ H (ds.take n) (vs.take n)
  | _, _, 0, _ => by simpa using Reps.nil
  | [], _, n + 1, h => by simp only [Reps] at h; subst h; simpa using Reps.nil
  | d :: ds, _, n + 1, h => by
    simp only [Reps] at h
    obtain ⟨w, ws, rfl, q, r⟩ := h
    exact Reps.cons q (Reps.take n r)
theorem Reps.drop : ∀ {ds : List D} {vs : List V} (n : Nat), Reps K μ H ds vs → Reps K μ H (ds.drop n) (vs.drop n)
  | _, _, 0, h => h
  | [], _, n + 1, h => by simp only [Reps] at h; subst h; simpa using Reps.nil
  | d :: ds, _, n + 1, h => by
    simp only [Reps] at h
    obtain ⟨w, ws, rfl, q, r⟩ := h
    exact Reps.drop n r
theorem Reps.set : ∀ {ds : List D} {vs : List V} (n : Nat) {d : D} {v : V}, Reps K μ H ds vs → Rep K μ H d v → Reps K μ H (ds.set n d) (vs.set n v)
  | [], _, n, _, _, h, _ => by simp only [Reps] at h; subst h; simpa using Reps.nil
  | d :: ds, _, 0, _, _, h, x => by
    simp only [Reps] at h
    obtain ⟨w, ws, rfl, q, r⟩ := h
    exact Reps.cons x r
  | d :: ds, _, n + 1, _, _, h, x => by
    simp only [Reps] at h
    obtain ⟨w, ws, rfl, q, r⟩ := h
    exact Reps.cons q (Reps.set n r x)
theorem Reps.reverse : ∀ {ds : List D} {vs : List V}, Reps K μ H ds vs → Reps K μ H ds.reverse vs.reverse
  | [], _, h => by simp only [Reps] at h; subst h; simpa using Reps.nil
  | d :: ds, _, h => by
    simp only [Reps] at h
    obtain ⟨w, ws, rfl, q, r⟩ := h
    rw [List.reverse_cons, List.reverse_cons]
    exact (Reps.reverse r).append (Reps.cons q Reps.nil)
theorem Reps.eraseIdx : ∀ {ds : List D} {vs : List V} (n : Nat), Reps K μ H ds vs → Reps K μ H (ds.eraseIdx n) (vs.eraseIdx n)
  | [], _, n, h => by simp only [Reps] at h; subst h; simpa using Reps.nil
  | d :: ds, _, 0, h => by
    simp only [Reps] at h
    obtain ⟨w, ws, rfl, q, r⟩ := h
    exact r
  | d :: ds, _, n + 1, h => by
    simp only [Reps] at h
    obtain ⟨w, ws, rfl, q, r⟩ := h
    exact Reps.cons q (Reps.eraseIdx n r)
theorem Reps.dropLast {ds : List D} {vs : List V} (h : Reps K μ H ds vs) : Reps K μ H ds.dropLast vs.dropLast := by
  rw [List.dropLast_eq_take, List.dropLast_eq_take, ← h.length]
  exact h.take _
theorem Reps.ints : ∀ {ns : List Int} {vs : List V}, Reps K μ H (ns.map D.int) vs → vs = ns.map V.int
  | [], _, h => by simp only [List.map_nil, Reps] at h; subst h; rfl
  | n :: ns, _, h => by
    simp only [List.map_cons, Reps, Rep] at h
    obtain ⟨w, ws, rfl, rfl, r⟩ := h
    rw [Reps.ints r]; rfl
theorem Reps.bools : ∀ {ns : List Bool} {vs : List V}, Reps K μ H (ns.map D.bl) vs → vs = ns.map V.bl
  | [], _, h => by simp only [List.map_nil, Reps] at h; subst h; rfl
  | n :: ns, _, h => by
    simp only [List.map_cons, Reps, Rep] at h
    obtain ⟨w, ws, rfl, rfl, r⟩ := h
    rw [Reps.bools r]; rfl
theorem Reps.strs : ∀ {ns : List Str} {vs : List V}, Reps K μ H (ns.map D.str) vs → vs = ns.map V.str
  | [], _, h => by simp only [List.map_nil, Reps] at h; subst h; rfl
  | n :: ns, _, h => by
    simp only [List.map_cons, Reps, Rep] at h
    obtain ⟨w, ws, rfl, rfl, r⟩ := h
    rw [Reps.strs r]; rfl
theorem Reps.of_ints : ∀ (ns : List Int), Reps K μ H (ns.map D.int) (ns.map V.int)
  | [] => Reps.nil
  | n :: ns => Reps.cons (by simp only [Rep]) (Reps.of_ints ns)

/-! ### the objects through changes of the heap -/
theorem OOk.mono {a : Addr} : ∀ {o : AObj}, (hμ : μ <+: μ') → (hH : TExt K H H') → (he : o.isRo = false → H' a = H a) → (hf : ∀ ob u, H a = some (.frz ob u) → H' a = some (.frz ob u)) → OOk K μ H a o → OOk K μ' H' a o
  | .lst ds, hμ, hH, he, _, ⟨vs, e, r⟩ => ⟨vs, (he rfl).trans e, r.mono hμ hH⟩
  | .ro ds, hμ, hH, he, hf, ⟨vs, e, r⟩ => ⟨vs, e.elim (fun ⟨o, q⟩ => .inl ⟨o, hf _ _ q⟩) .inr, r.mono hμ hH⟩
  | .dK ds, hμ, hH, he, _, ⟨vs, e, k, r⟩ => ⟨vs, (he rfl).trans e, k, r.mono hμ hH⟩
  | .dT ds, hμ, hH, he, _, ⟨vs, e, k, r⟩ => ⟨vs, (he rfl).trans e, k, r.mono hμ hH⟩
  | .ins C ds, hμ, hH, he, _, ⟨dx, vs, e, k, r⟩ => ⟨dx, vs, (he rfl).trans e, k, r.mono hμ hH⟩
theorem OOk.there {a : Addr} : ∀ {o : AObj}, OOk K μ H a o → o.isRo = false → Mut (H a)
  | .lst ds, ⟨vs, e, _⟩, _ => by rw [e]; trivial
  | .ro ds, _, h => by cases h
  | .dK ds, ⟨vs, e, _⟩, _ => by rw [e]; trivial
  | .dT ds, ⟨vs, e, _⟩, _ => by rw [e]; trivial
  | .ins C ds, ⟨dx, vs, e, _⟩, _ => by rw [e]; trivial
theorem Sim.at {ah : AH} (S : Sim K μ H ah) {n : Nat} {o : AObj} (e : ah[n]? = some o) : ∃ a, μ[n]? = some a ∧ OOk K μ H a o := by
  have hn : n < μ.length := by rw [S.len]; exact (List.getElem?_eq_some_iff.mp e).1
  exact ⟨μ[n], by simp [hn], S.ok n _ o (by simp [hn]) e⟩
/-- a heap that bears all of ours alike -/
theorem Sim.frame {ah : AH} (S : Sim K μ H ah) (hH : TExt K H H') (he : ∀ a, Mut (H a) → H' a = H a) (hf : ∀ a ob u, H a = some (.frz ob u) → H' a = some (.frz ob u)) : Sim K μ H' ah :=
  ⟨S.len, S.nd, fun n a o e1 e2 => (S.ok n a o e1 e2).mono (List.prefix_refl _) hH (fun q => he a ((S.ok n a o e1 e2).there q)) (hf a), S.pos, S.ro0⟩
/-- all but the script: something that may change -/
theorem Sim.mut {ah : AH} (S : Sim K μ H ah) {a : Addr} (h : a ∈ μ.tail) : Mut (H a) := by
  obtain ⟨i, e⟩ := List.mem_iff_getElem?.mp h
  rw [List.getElem?_tail] at e
  have hn : i + 1 < ah.length := by rw [← S.len]; exact (List.getElem?_eq_some_iff.mp e).1
  have e2 : ah[i + 1]? = some ah[i + 1] := List.getElem?_eq_getElem hn
  refine (S.ok _ a _ e e2).there ?_
  have := S.ro0 _ _ e2
  cases q : ah[i + 1].isRo with
  | false => rfl
  | true => exact absurd (this.mp q) (by omega)
theorem Sim.free {ah : AH} (S : Sim K μ H ah) {p : Addr} (h : H p = none) : p ∉ μ.tail := fun z => by
  have := S.mut z
  rw [h] at this; exact this
/-- something new that is not ours -/
theorem Sim.other {ah : AH} (S : Sim K μ H ah) {p : Addr} {u : HO} (hp : H p = none) : Sim K μ (upd H p u) ah :=
  S.frame (TExt.new hp) (fun a h => upd_ne (fun z => by subst z; rw [hp] at h; exact h)) fun a ob v q => by rw [upd_ne (ne_of_none q hp)]; exact q
/-- a new object of ours -/
theorem Sim.new {ah : AH} (S : Sim K μ H ah) {p : Addr} {u : HO} {o : AObj} (hp : H p = none) (hr : o.isRo = false) (h : OOk K (μ ++ [p]) (upd H p u) p o) : Sim K (μ ++ [p]) (upd H p u) (ah ++ [o]) := by
  have key : ∀ (n : Nat) (a : Addr) (q : AObj), (μ ++ [p])[n]? = some a → (ah ++ [o])[n]? = some q → (μ[n]? = some a ∧ ah[n]? = some q) ∨ (n = ah.length ∧ a = p ∧ q = o) := fun n a q e1 e2 => by
    by_cases hn : n < ah.length
    · rw [List.getElem?_append_left (by rw [S.len]; exact hn)] at e1
      rw [List.getElem?_append_left hn] at e2
      exact .inl ⟨e1, e2⟩
    · have hn' : n < (ah ++ [o]).length := (List.getElem?_eq_some_iff.mp e2).1
      have : n = ah.length := by simp at hn'; omega
      subst this
      rw [List.getElem?_append_right (by rw [S.len]; omega)] at e1
      rw [List.getElem?_append_right (Nat.le_refl _)] at e2
      rw [S.len] at e1
      simp at e1 e2
      exact .inr ⟨rfl, e1.symm, e2.symm⟩
  refine ⟨by simp [S.len], fun n m a q q' e1 e2 e3 e4 r1 r2 => ?_, fun n a q e1 e2 => ?_, by simp, fun n q e => ?_⟩
  · rcases key n a q e1 e3 with ⟨x1, x2⟩ | ⟨x1, x2, x3⟩
    · rcases key m a q' e2 e4 with ⟨y1, y2⟩ | ⟨y1, y2, y3⟩
      · exact S.nd n m a q q' x1 y1 x2 y2 r1 r2
      · have := (S.ok n a q x1 x2).there r1
        rw [y2, hp] at this; exact this.elim
    · rcases key m a q' e2 e4 with ⟨y1, y2⟩ | ⟨y1, y2, y3⟩
      · have := (S.ok m a q' y1 y2).there r2
        rw [x2, hp] at this; exact this.elim
      · rw [x1, y1]
  · rcases key n a q e1 e2 with ⟨x1, x2⟩ | ⟨x1, x2, x3⟩
    · exact (S.ok n a q x1 x2).mono (List.prefix_append _ _) (TExt.new hp) (fun z => upd_ne (fun w => by
        have := (S.ok n a q x1 x2).there z
        rw [w, hp] at this; exact this)) fun ob v z => by rw [upd_ne (ne_of_none z hp)]; exact z
    · rw [x2, x3]; exact h
  · by_cases hn : n < ah.length
    · rw [List.getElem?_append_left hn] at e
      exact S.ro0 n q e
    · have hn' : n < (ah ++ [o]).length := (List.getElem?_eq_some_iff.mp e).1
      have : n = ah.length := by simp at hn'; omega
      subst this
      rw [List.getElem?_append_right (Nat.le_refl _)] at e
      simp at e
      subst e
      have := S.pos
      constructor
      · intro z; rw [hr] at z; cases z
      · intro z; omega
/-- an object of ours changed -/
theorem Sim.put {ah : AH} (S : Sim K μ H ah) {n : Nat} {a : Addr} {u : HO} {o o' : AObj} (e1 : μ[n]? = some a) (e2 : ah[n]? = some o) (hr : o.isRo = false) (hr' : o'.isRo = false) (h : TExt K H (upd H a u) → OOk K μ (upd H a u) a o') : Sim K μ (upd H a u) (ah.set n o') := by
  have mu := (S.ok n a o e1 e2).there hr
  have ht : TExt K H (upd H a u) := TExt.mut mu
  have hn : n < ah.length := (List.getElem?_eq_some_iff.mp e2).1
  have old : ∀ (m : Nat) (q : AObj), (ah.set n o')[m]? = some q → m ≠ n → ah[m]? = some q := fun m q e z => by
    rw [List.getElem?_set_ne (Ne.symm z)] at e; exact e
  have self : ∀ q, (ah.set n o')[n]? = some q → q = o' := fun q e => by
    rw [List.getElem?_set_self hn] at e; exact (Option.some.inj e).symm
  refine ⟨by simp [S.len], fun m k b q q' x1 x2 x3 x4 r1 r2 => ?_, fun m b q x1 x2 => ?_, by rw [List.length_set]; exact S.pos, fun m q x => ?_⟩
  · by_cases hm : m = n
    · by_cases hk : k = n
      · rw [hm, hk]
      · subst hm
        rw [e1] at x1; cases x1
        exact S.nd m k a o q' e1 x2 e2 (old k q' x4 hk) hr r2
    · by_cases hk : k = n
      · subst hk
        rw [e1] at x2; cases x2
        exact S.nd m k a q o x1 e1 (old m q x3 hm) e2 r1 hr
      · exact S.nd m k b q q' x1 x2 (old m q x3 hm) (old k q' x4 hk) r1 r2
  · by_cases hm : m = n
    · subst hm
      rw [self q x2]
      rw [e1] at x1; cases x1
      exact h ht
    · have y := old m q x2 hm
      refine (S.ok m b q x1 y).mono (List.prefix_refl _) ht (fun z => upd_ne fun w => ?_) fun ob v z => ?_
      · subst w
        exact hm (S.nd m n b q o x1 e1 y e2 z hr)
      · rw [upd_ne fun w => by subst w; rw [z] at mu; exact mu]; exact z
  · by_cases hm : m = n
    · subst hm
      rw [self q x, ← S.ro0 _ _ e2, hr, hr']
    · exact S.ro0 m q (old m q x hm)
end HA

/-! HA2: results, what is wanted of them, the judgements, composition. -/
namespace HA
open PySem PySem.Spec PyProof.Rows L2

inductive Res (α : Type) where
  | ok (a : α) (h : AH)
  | exn (c : Addr) (fs : Option (List (Str × D))) (h : AH)
  | stuck
def Res.bind {α β : Type} (r : Res α) (f : α → AH → Res β) : Res β := match r with
  | .ok a h => f a h
  | .exn c fs h => .exn c fs h
  | .stuck => .stuck
@[simp] theorem Res.bind_ok {α β : Type} (a : α) (h : AH) (f : α → AH → Res β) : (Res.ok a h).bind f = f a h := rfl
@[simp] theorem Res.bind_exn {α β : Type} (c : Addr) (fs : Option (List (Str × D))) (h : AH) (f : α → AH → Res β) : (Res.exn c fs h : Res α).bind f = .exn c fs h := rfl
@[simp] theorem Res.bind_stuck {α β : Type} (f : α → AH → Res β) : (Res.stuck : Res α).bind f = .stuck := rfl
theorem Res.bind_assoc {α β γ : Type} (r : Res α) (f : α → AH → Res β) (g : β → AH → Res γ) : (r.bind f).bind g = r.bind fun a h => (f a h).bind g := by cases r <;> rfl
abbrev Env := List (Option D)
abbrev EM (α : Type) := Env → AH → Res α

/-- from (μ, H) on: ours first, tuples stay, what is no object of ours stays -/
structure Ext (K : PySem.W.Frag) (μ : List Addr) (H : Hp) (μ' : List Addr) (H' : Hp) : Prop where
  pre : μ <+: μ'
  tup : TExt K H H'
  new : ∀ a, a ∈ μ'.tail → a ∈ μ.tail ∨ H a = none
  keep : ∀ a o, a ∉ μ.tail → H a = some o → H' a = some o
  there : ∀ a, H' a = none → H a = none
section
variable {K : PySem.W.Frag} {μ μ1 μ2 : List Addr} {H H1 H2 : Hp}
theorem Ext.refl : Ext K μ H μ H := ⟨List.prefix_refl _, TExt.refl, fun _ h => .inl h, fun _ _ _ e => e, fun _ h => h⟩
theorem there_upd {p : Addr} {u : HO} : ∀ a, upd H p u a = none → H a = none := fun a h => by
  by_cases z : a = p
  · subst z; rw [upd_same] at h; cases h
  · rw [upd_ne z] at h; exact h
theorem Ext.trans (a : Ext K μ H μ1 H1) (b : Ext K μ1 H1 μ2 H2) : Ext K μ H μ2 H2 where
  pre := a.pre.trans b.pre
  there := fun x h => a.there x (b.there x h)
  tup := a.tup.trans b.tup
  new := fun x hx => by
    rcases b.new x hx with h | h
    · exact a.new x h
    · by_cases hm : x ∈ μ.tail
      · exact .inl hm
      · cases e : H x with
        | none => exact .inr rfl
        | some o => rw [a.keep x o hm e] at h; cases h
  keep := fun x o hm e => b.keep x o (fun z => by
    rcases a.new x z with h | h
    · exact hm h
    · rw [e] at h; cases h) (a.keep x o hm e)
theorem Ext.other {p : Addr} {u : HO} (hp : H p = none) : Ext K μ H μ (upd H p u) :=
  ⟨List.prefix_refl _, TExt.new hp, fun _ h => .inl h, fun a o _ e => by rw [upd_ne (ne_of_none e hp)]; exact e, there_upd⟩
theorem Ext.ours {p : Addr} {u : HO} (hp : H p = none) (h0 : 0 < μ.length) : Ext K μ H (μ ++ [p]) (upd H p u) :=
  ⟨List.prefix_append _ _, TExt.new hp, fun a h => by
    rw [List.tail_append_of_ne_nil (by intro z; rw [z] at h0; exact absurd h0 (by decide))] at h
    exact (List.mem_append.mp h).elim .inl fun z => .inr (by simp at z; rw [z]; exact hp), fun a o _ e => by rw [upd_ne (ne_of_none e hp)]; exact e, there_upd⟩
theorem Ext.put {p : Addr} {u : HO} {n : Nat} (e : μ[n]? = some p) (hn : n ≠ 0) (mu : Mut (H p)) : Ext K μ H μ (upd H p u) :=
  ⟨List.prefix_refl _, TExt.mut mu, fun _ h => .inl h, fun a o hm e' => by
    rw [upd_ne (fun z => hm (by
      rw [z]
      obtain ⟨k, rfl⟩ : ∃ k, n = k + 1 := ⟨n - 1, by omega⟩
      exact List.mem_of_getElem? (by rw [List.getElem?_tail]; exact e)))]
    exact e', there_upd⟩
theorem Rep.ext {d : D} {v : V} (h : Rep K μ H d v) (e : Ext K μ H μ1 H1) : Rep K μ1 H1 d v := Rep.mono e.pre e.tup d v h
theorem Reps.ext {d : List D} {v : List V} (h : Reps K μ H d v) (e : Ext K μ H μ1 H1) : Reps K μ1 H1 d v := Reps.mono e.pre e.tup d v h
theorem EnvRel.ext {env : Env} {σ : L2.St} (h : EnvRel K μ H env σ) (e : Ext K μ H μ1 H1) : EnvRel K μ1 H1 env σ := h.mono e.pre e.tup
end

/-- how an exception lies -/
def ExnOk (K : PySem.W.Frag) (μ : List Addr) (H : Hp) : Option (List (Str × D)) → Option Addr → Prop
  | none, od => od = none
  | some fs, od => ∃ d fws, od = some d ∧ H d = some (.xd fws) ∧ fs.map (·.1) = fws.map (·.1) ∧ Reps K μ H (fs.map (·.2)) (fws.map (·.2))
/-- how an answer lies: H₀ the heap at the beginning -/
structure Rel (β γ : Type) where
  r : Hp → List Addr → Hp → β → γ → Prop
  back : ∀ {H₀ H₁ : Hp} {μ : List Addr} {H : Hp} {b : β} {c : γ}, (∀ a, H₁ a = none → H₀ a = none) → r H₁ μ H b c → r H₀ μ H b c
def Post {β γ : Type} (K : PySem.W.Frag) (R : Rel β γ) (W : Value → Option Addr → Hp → Prop) (μ : List Addr) (H : Hp) (Q : γ → Hp → Prop) : Res β → Prop
  | .ok d ah' => ∀ μ' x H', Ext K μ H μ' H' → Sim K μ' H' ah' → R.r H μ' H' d x → Q x H'
  | .exn c fs ah' => ∀ μ' H' od, Ext K μ H μ' H' → Sim K μ' H' ah' → ExnOk K μ' H' fs od → W (.ref c) od H'
  | .stuck => False
section
variable {K : PySem.W.Frag} {μ μ1 : List Addr} {H H1 : Hp} {β γ β' γ' : Type} {R : Rel β γ} {R' : Rel β' γ'} {W : Value → Option Addr → Hp → Prop}
theorem Post.ext {Q : γ → Hp → Prop} {r : Res β} (e : Ext K μ H μ1 H1) (h : Post K R W μ H Q r) : Post K R W μ1 H1 Q r := by
  cases r with
  | ok d ah => exact fun μ' x H' e' s r => h μ' x H' (e.trans e') s (R.back e.there r)
  | exn c fs ah => exact fun μ' H' od e' => h μ' H' od (e.trans e')
  | stuck => exact h
/-- THE COMPOSITION -/
theorem Post.bind {Q : γ' → Hp → Prop} {P : γ → Hp → Prop} {r : Res β} {f : β → AH → Res β'} (h : Post K R' W μ H Q (r.bind f))
    (k : ∀ d ah1 μ1 x H1, Ext K μ H μ1 H1 → Sim K μ1 H1 ah1 → R.r H μ1 H1 d x → Post K R' W μ1 H1 Q (f d ah1) → P x H1) : Post K R W μ H P r := by
  cases r with
  | ok d ah => exact fun μ' x H' e' s' r' => k d ah μ' x H' e' s' r' (Post.ext e' h)
  | exn c fs ah => exact h
  | stuck => exact h
/-- .. the beginning as it was -/
theorem Post.bind0 {Q : γ' → Hp → Prop} {P : γ → Hp → Prop} {r : Res β} {f : β → AH → Res β'} (h : Post K R' W μ H Q (r.bind f))
    (k : ∀ d ah1 μ1 x H1, Ext K μ H μ1 H1 → Sim K μ1 H1 ah1 → R.r H μ1 H1 d x → Post K R' W μ H Q (f d ah1) → P x H1) : Post K R W μ H P r := by
  cases r with
  | ok d ah => exact fun μ' x H' e' s' r' => k d ah μ' x H' e' s' r' h
  | exn c fs ah => exact h
  | stuck => exact h
theorem Post.mono {Q Q' : γ → Hp → Prop} {r : Res β} (h : Post K R W μ H Q r) (k : ∀ x H', Q x H' → Q' x H') : Post K R W μ H Q' r := by
  cases r with
  | ok d ah => exact fun μ' x H' e' s' r' => k x H' (h μ' x H' e' s' r')
  | exn c fs ah => exact h
  | stuck => exact h
end

def RD (K : PySem.W.Frag) : Rel D V := ⟨fun _ μ H d v => Rep K μ H d v, fun _ h => h⟩
def RB : Rel Bool Bool := ⟨fun _ _ _ b c => b = c, fun _ h => h⟩
/-- a new list, no object of ours, by its items -/
def RL (K : PySem.W.Frag) : Rel (List D) V := ⟨fun H₀ μ H ds v => ∃ a vs, v = .ref a ∧ H₀ a = none ∧ H a = some (.lst vs) ∧ a ∉ μ.tail ∧ Reps K μ H ds vs, fun h ⟨a, vs, e, z, r⟩ => ⟨a, vs, e, h a z, r⟩⟩
/-- a list or tuple that is read, by its items -/
def RQ (K : PySem.W.Frag) : Rel (List D) V := ⟨fun _ μ H ds v => ∃ a vs, v = .ref a ∧ (SqL K H a vs ∨ SqT K H a vs) ∧ Reps K μ H ds vs, fun _ h => h⟩
def RA (K : PySem.W.Frag) : Rel (List D) (List V) := ⟨fun _ μ H ds vs => Reps K μ H ds vs, fun _ h => h⟩

def tG {β γ : Type} (K : PySem.W.Frag) (R : Rel β γ) (W : WX) (m : EM β) : L2.St → Hp → (γ → Hp → Prop) → Prop := fun σ H Q =>
  ∃ (μ : List Addr) (env : Env) (ah : AH), EnvRel K μ H env σ ∧ Sim K μ H ah ∧ Post K R (fun c d H' => W c d σ H') μ H Q (m env ah)
theorem tG_next {K : PySem.W.Frag} {β γ : Type} {R : Rel β γ} {W : WX} {σ : L2.St} {μ μ1 : List Addr} {env : Env} {H H1 : Hp} {ah1 : AH} {m : EM β} {Q : γ → Hp → Prop} (he : EnvRel K μ H env σ) (e : Ext K μ H μ1 H1) (hs : Sim K μ1 H1 ah1)
    (hp : Post K R (fun c d H' => W c d σ H') μ1 H1 Q (m env ah1)) : tG K R W m σ H1 Q := ⟨μ1, env, ah1, he.ext e, hs, hp⟩

theorem PE.weak {X : Cx} {e : Expr} {t t' : TE} (h : PE X e t) (k : ∀ σ H Q, t' σ H Q → t σ H Q) : PE X e t' := ⟨fun pins s σ H Q I q => h.run pins s σ H Q I (k σ H Q q)⟩
theorem PT.weak {X : Cx} {e : Expr} {t t' : TT} (h : PT X e t) (k : ∀ σ H Q, t' σ H Q → t σ H Q) : PT X e t' := ⟨fun pins s σ H Q I q => h.run pins s σ H Q I (k σ H Q q)⟩
theorem PW.weak {X : Cx} {e : Expr} {t t' : TT} (h : PW X e t) (k : ∀ σ H Q, t' σ H Q → t σ H Q) : PW X e t' := ⟨fun wh pins s σ H Q I q => h.run wh pins s σ H Q I (k σ H Q q)⟩
theorem PA.weak {X : Cx} {e : List Expr} {t t' : TA} (h : PA X e t) (k : ∀ σ H Q, t' σ H Q → t σ H Q) : PA X e t' := ⟨fun p pins s σ H Q I q => h.run p pins s σ H Q I (k σ H Q q)⟩

/-- the judgements: a value, a new list by its items, a sequence by its items, a test, arguments -/
def PD (X : Cx) (W : WX) (e : Expr) (m : EM D) : Prop := PE X e (tG X.K (RD X.K) W m)
def PL (X : Cx) (W : WX) (e : Expr) (m : EM (List D)) : Prop := PE X e (tG X.K (RL X.K) W m)
def PQ (X : Cx) (W : WX) (e : Expr) (m : EM (List D)) : Prop := PE X e (tG X.K (RQ X.K) W m)
def PB (X : Cx) (W : WX) (e : Expr) (m : EM Bool) : Prop := PT X e (tG X.K RB W m)
def PBw (X : Cx) (W : WX) (e : Expr) (m : EM Bool) : Prop := PW X e (tG X.K RB W m)
def PAs (X : Cx) (W : WX) (es : List Expr) (m : EM (List D)) : Prop := PA X es (tG X.K (RA X.K) W m)

/-! ### names, constants -/
def eVar (i : Nat) : EM D := fun env ah => match env[i]? with
  | some (some d) => .ok d ah
  | _ => .stuck
def eC (d : D) : EM D := fun _ ah => .ok d ah
section
variable {X : Cx} {W : WX}
theorem post_var {K : PySem.W.Frag} {β γ : Type} {R : Rel β γ} {W : Value → Option Addr → Hp → Prop} {μ : List Addr} {H : Hp} {d : β} {x : γ} {ah : AH} {Q : γ → Hp → Prop} (h : Post K R W μ H Q (.ok d ah)) (S : Sim K μ H ah) (r : R.r H μ H d x) : Q x H := h μ x H Ext.refl S r
theorem pd_var (i : Nat) {x : Str} {pos : Pos} (hN : X.N[i]? = some x := by rfl) (hv : Vis X.env.scope x := by first | exact Or.inl rfl | exact Or.inr (Or.inl rfl) | exact Or.inr (Or.inr rfl)) (hd : (x == ("__debug__" : Str)) = false := by decide)
    (hcd : (x == ("__classdict__" : Str)) = false := by decide) : PD X W (.Name x pos) (eVar i) := by
  refine PE.weak (pe_var (i := i) hN hv hd hcd) fun σ H Q ⟨μ, env, ah, he, hs, hp⟩ => ?_
  unfold eVar at hp
  split at hp
  · rename_i d e
    obtain ⟨v, e', r⟩ := he.2 i d e
    exact ⟨v, e', post_var hp hs r⟩
  · exact hp.elim
theorem pd_c {e : Expr} {v : V} {d : D} (h : PE X e (tC v)) (hr : ∀ μ H, Rep X.K μ H d v) : PD X W e (eC d) :=
  PE.weak h fun σ H Q ⟨μ, env, ah, he, hs, hp⟩ => post_var (x := v) hp hs (hr μ H)
theorem pd_int {i : Int} {j pos} : PD X W (.Constant (.int i) j pos) (eC (.int i)) := pd_c pe_int fun _ _ => by simp only [Rep]
theorem pd_bl {b : Bool} {j pos} : PD X W (.Constant (.bool b) j pos) (eC (.bl b)) := pd_c pe_bl fun _ _ => by simp only [Rep]
theorem pd_non {j pos} : PD X W (.Constant .none j pos) (eC .non) := pd_c pe_non fun _ _ => by simp only [Rep]
theorem pd_str {x j pos} : PD X W (.Constant (.str x) j pos) (eC (.str x)) := pd_c pe_str fun _ _ => by simp only [Rep]
/-- a constant of the module: hr is of mg's value -/
theorem pd_glob {x : Str} {v : V} {u : Value} {d : D} {pos : Pos} (hg : Gl X x) (hm : X.mg x = some u) (r : RelV v u) (hr : ∀ μ H, Rep X.K μ H d v) (hd : (x == ("__debug__" : Str)) = false := by decide) : PD X W (.Name x pos) (eC d) :=
  pd_c (pe_glob hg hm r hd) hr

/-! ### operators -/
def e2 {α β γ : Type} (ma : EM α) (mb : EM β) (f : α → β → AH → Res γ) : EM γ := fun env ah => (ma env ah).bind fun x ah1 => (mb env ah1).bind fun y ah2 => f x y ah2
def e1 {α γ : Type} (ma : EM α) (f : α → AH → Res γ) : EM γ := fun env ah => (ma env ah).bind fun x ah1 => f x ah1
/-- an operator's rule, by data -/
def rO {γ : Type} {R : Rel γ V} (K : PySem.W.Frag) (W : Value → Option Addr → Hp → Prop) (f : D → D → AH → Res γ) : R2 := fun x y H Q => ∃ μ ah dx dy, Sim K μ H ah ∧ Rep K μ H dx x ∧ Rep K μ H dy y ∧ Post K R W μ H Q (f dx dy ah)
def OpD {γ : Type} (X : Cx) (R : Rel γ V) (F : Value → Value → Sem Value) (f : D → D → AH → Res γ) : Prop := ∀ W, OpR X F (rO (R := R) X.K W f)
theorem op2 {γ : Type} {R : Rel γ V} {K : PySem.W.Frag} {ma mb : EM D} {f : D → D → AH → Res γ} {σ : L2.St} {H : Hp} {Q : VK} (h : tG K R W (e2 ma mb f) σ H Q) :
    tOp (rO (R := R) K (fun c d H' => W c d σ H') f) (tG K (RD K) W ma) (tG K (RD K) W mb) σ H Q := by
  obtain ⟨μ, env, ah, he, hs, hp⟩ := h
  refine ⟨μ, env, ah, he, hs, hp.bind fun dx ah1 μ1 x H1 e1 s1 r1 p1 => ?_⟩
  refine tG_next he e1 s1 (p1.bind fun dy ah2 μ2 y H2 e2 s2 r2 p2 => ?_)
  exact ⟨μ2, ah2, dx, dy, s2, Rep.ext r1 e2, r2, p2⟩
theorem pe_opσ {op : Operator} {r : L2.St → R2} {a b : Expr} {ta tb : TE} {pos : Pos} (ho : ∀ σ, OpR X (binaryOp op) (r σ)) (ha : PE X a ta) (hb : PE X b tb) : PE X (.BinOp a op b pos) (fun σ H Q => tOp (r σ) ta tb σ H Q) :=
  ⟨fun pins s σ H Q I h => (pe_op (ho σ) ha hb).run pins s σ H Q I h⟩
theorem pd_op {op : Operator} {a b : Expr} {ma mb : EM D} {f : D → D → AH → Res D} {pos : Pos} (ho : OpD X (RD X.K) (binaryOp op) f) (ha : PD X W a ma) (hb : PD X W b mb) : PD X W (.BinOp a op b pos) (e2 ma mb f) :=
  PE.weak (pe_opσ (r := fun σ => rO (R := RD X.K) X.K (fun c d H' => W c d σ H') f) (fun σ => ho _) ha hb) fun _ _ _ h => op2 h
theorem pe_cmpσ {op : CmpOp} {r : L2.St → R2} {a b : Expr} {ta tb : TE} {pos : Pos} (ho : ∀ σ, OpR X (compareOp op) (r σ)) (ha : PE X a ta) (hb : PE X b tb) (hm : behindInMarks op b = false) : PE X (.Compare a [op] [b] pos) (fun σ H Q => tOp (r σ) ta tb σ H Q) :=
  ⟨fun pins s σ H Q I h => (pe_cmpR (ho σ) ha hb hm).run pins s σ H Q I h⟩
theorem pt_cmpσ {op : CmpOp} {r : L2.St → R2} {a b : Expr} {ta tb : TE} {pos : Pos} (ho : ∀ σ, OpR X (compareOp op) (r σ)) (ha : PE X a ta) (hb : PE X b tb) (hm : behindInMarks op b = false) : PT X (.Compare a [op] [b] pos) (fun σ H Q => tTest (tOp (r σ) ta tb) σ H Q) :=
  ⟨fun pins s σ H Q I h => (pt_cmpR (ho σ) ha hb hm).run pins s σ H Q I h⟩
/-- a comparison's answer is a truth -/
def RBV : Rel Bool V := ⟨fun _ _ _ b v => v = .bl b, fun _ h => h⟩
theorem Post.bv {K : PySem.W.Frag} {Wx : Value → Option Addr → Hp → Prop} {μ : List Addr} {H : Hp} {Q : VK} {r : Res Bool} (h : Post K (RD K) Wx μ H Q (r.bind fun b ah => .ok (.bl b) ah)) : Post K RBV Wx μ H Q r := by
  cases r with
  | ok b ah => exact fun μ' x H' e s r => h μ' x H' e s (by have : x = .bl b := r; subst this; simp only [RD, Rep])
  | exn c fs ah => exact h
  | stuck => exact h
theorem Post.bb {K : PySem.W.Frag} {Wx : Value → Option Addr → Hp → Prop} {μ : List Addr} {H : Hp} {Q : Bool → Hp → Prop} {r : Res Bool} (h : Post K RB Wx μ H Q r) : Post K RBV Wx μ H (fun x H' => ∃ k, x = .bl k ∧ Q k H') r := by
  cases r with
  | ok b ah => exact fun μ' x H' e s r => ⟨b, r, h μ' b H' e s rfl⟩
  | exn c fs ah => exact h
  | stuck => exact h
def eB (m : EM Bool) : EM D := fun env ah => (m env ah).bind fun b ah => .ok (.bl b) ah
theorem op2b {K : PySem.W.Frag} {ma mb : EM D} {f : D → D → AH → Res Bool} {σ : L2.St} {H : Hp} {Q : VK} (h : tG K (RD K) W (eB (e2 ma mb f)) σ H Q) :
    tOp (rO (R := RBV) K (fun c d H' => W c d σ H') f) (tG K (RD K) W ma) (tG K (RD K) W mb) σ H Q := by
  obtain ⟨μ, env, ah, he, hs, hp⟩ := h
  exact op2 ⟨μ, env, ah, he, hs, Post.bv hp⟩
theorem pd_cmp {op : CmpOp} {a b : Expr} {ma mb : EM D} {f : D → D → AH → Res Bool} {pos : Pos} (ho : OpD X RBV (compareOp op) f) (ha : PD X W a ma) (hb : PD X W b mb) (hm : behindInMarks op b = false := by first | exact nomark _ | rfl) : PD X W (.Compare a [op] [b] pos) (eB (e2 ma mb f)) :=
  PE.weak (pe_cmpσ (r := fun σ => rO (R := RBV) X.K (fun c d H' => W c d σ H') f) (fun σ => ho _) ha hb hm) fun _ _ _ h => op2b h
theorem pb_cmp {op : CmpOp} {a b : Expr} {ma mb : EM D} {f : D → D → AH → Res Bool} {pos : Pos} (ho : OpD X RBV (compareOp op) f) (ha : PD X W a ma) (hb : PD X W b mb) (hm : behindInMarks op b = false := by first | exact nomark _ | rfl) : PB X W (.Compare a [op] [b] pos) (e2 ma mb f) := by
  refine PT.weak (pt_cmpσ (r := fun σ => rO (R := RBV) X.K (fun c d H' => W c d σ H') f) (fun σ => ho _) ha hb hm) fun σ H Q ⟨μ, env, ah, he, hs, hp⟩ => ?_
  exact op2 ⟨μ, env, ah, he, hs, Post.bb hp⟩
end
end HA

/-! HA3: operators and comparisons of data. -/
namespace HA
open PySem PySem.Spec PyProof.Rows L2

def line : Nat := 16777216
theorem line_le {n : Nat} (h : n ≤ line) : n ≤ sizeLine := by rw [sizeLine_eq]; exact h
/-- the items of a list object -/
def listAt (ah : AH) (n : Nat) : Option (List D) := match ah[n]? with
  | some (.lst ds) => some ds
  | some (.ro ds) => some ds
  | _ => none
section
variable {K : PySem.W.Frag} {μ : List Addr} {H : Hp}
theorem Sim.list {ah : AH} (S : Sim K μ H ah) {n : Nat} {ds : List D} (e : listAt ah n = some ds) : ∃ a vs, μ[n]? = some a ∧ SqL K H a vs ∧ Reps K μ H ds vs := by
  unfold listAt at e
  split at e
  · rename_i xs q
    cases e
    obtain ⟨a, e1, vs, e2, r⟩ := S.at q
    exact ⟨a, vs, e1, SqL.of e2, r⟩
  · rename_i xs q
    cases e
    obtain ⟨a, e1, vs, e2, r⟩ := S.at q
    refine ⟨a, vs, e1, ?_, r⟩
    rcases e2 with ⟨o, e2⟩ | e2
    · exact .inl (.inr ⟨o, e2⟩)
    · exact .inr e2
  · cases e
end

/-! ### arithmetic -/
def mulOk (i j : Int) : Bool := decide (i.natAbs.log2 + j.natAbs.log2 < 1000000)
def dI (b : Bool) : Int := if b = true then 1 else 0
def oAdd : D → D → AH → Res D
  | .int i, .int j, ah => .ok (.int (i + j)) ah
  | .str x, .str y, ah => if x.length + y.length ≤ line then .ok (.str (x ++ y)) ah else .stuck
  | .tup xs, .tup ys, ah => if xs.length + ys.length ≤ line then .ok (.tup (xs ++ ys)) ah else .stuck
  | .int i, .bl b, ah => .ok (.int (i + dI b)) ah
  | .bl b, .int j, ah => .ok (.int (dI b + j)) ah
  | .bl a, .bl b, ah => .ok (.int (dI a + dI b)) ah
  | _, _, _ => .stuck
def oSub : D → D → AH → Res D
  | .int i, .int j, ah => .ok (.int (i - j)) ah
  | .int i, .bl b, ah => .ok (.int (i - dI b)) ah
  | .bl b, .int j, ah => .ok (.int (dI b - j)) ah
  | .bl a, .bl b, ah => .ok (.int (dI a - dI b)) ah
  | _, _, _ => .stuck
def oMul : D → D → AH → Res D
  | .int i, .int j, ah => if mulOk i j = true then .ok (.int (i * j)) ah else .stuck
  | .tup xs, .int k, ah => if xs ≠ [] ∧ 2 ≤ k ∧ k ≤ 1000 ∧ xs.length ≤ 1000 then .ok (.tup (List.replicate k.toNat xs).flatten) ah else .stuck
  | _, _, _ => .stuck
def oFdiv : D → D → AH → Res D
  | .int i, .int j, ah => if 0 < j ∧ j.natAbs.log2 < 9000 then .ok (.int (i / j)) ah else .stuck
  | _, _, _ => .stuck
def oMod : D → D → AH → Res D
  | .int i, .int j, ah => if 0 < j then .ok (.int (i % j)) ah else .stuck
  | _, _, _ => .stuck
def oPow : D → D → AH → Res D
  | .int i, .int j, ah => if 0 ≤ j ∧ j ≤ 1000000 ∧ i.natAbs < 2 ^ 64 then .ok (.int (i ^ j.toNat)) ah else .stuck
  | _, _, _ => .stuck
section
variable {X : Cx} {W : WX}
/-- an operator's data rule from one of its alternatives -/
theorem Post.ok1 {β γ : Type} {K : PySem.W.Frag} {R : Rel β γ} {Wx : Value → Option Addr → Hp → Prop} {μ : List Addr} {H : Hp} {Q : γ → Hp → Prop} {d : β} {ah : AH} (h : Post K R Wx μ H Q (.ok d ah)) {x : γ} (S : Sim K μ H ah) (r : R.r H μ H d x) : Q x H := h μ x H Ext.refl S r
theorem Post.newT {K : PySem.W.Frag} {Wx : Value → Option Addr → Hp → Prop} {μ : List Addr} {H : Hp} {Q : VK} {ds : List D} {ah : AH} (h : Post K (RD K) Wx μ H Q (.ok (.tup ds) ah)) {vs : List V} (S : Sim K μ H ah) (r : Reps K μ H ds vs) {p : Addr} (hp : H p = none) : Q (.ref p) (upd H p (.tup vs)) :=
  h μ _ _ (Ext.other hp) (S.other hp) (by
    show Rep _ _ _ (.tup ds) _
    simp only [Rep]
    exact ⟨p, vs, rfl, SqT.of upd_same, r.ext (Ext.other hp)⟩)
theorem Post.newL {K : PySem.W.Frag} {Wx : Value → Option Addr → Hp → Prop} {μ : List Addr} {H : Hp} {Q : VK} {ds : List D} {ah : AH} (h : Post K (RL K) Wx μ H Q (.ok ds ah)) {vs : List V} (S : Sim K μ H ah) (r : Reps K μ H ds vs) {p : Addr} (hp : H p = none) : Q (.ref p) (upd H p (.lst vs)) :=
  h μ _ _ (Ext.other hp) (S.other hp) ⟨p, vs, rfl, hp, upd_same, S.free hp, r.ext (Ext.other hp)⟩
theorem d_int {K : PySem.W.Frag} {μ : List Addr} {H : Hp} {i : Int} {v : V} (h : Rep K μ H (.int i) v) : v = .int i := by simpa only [Rep] using h
theorem d_str {K : PySem.W.Frag} {μ : List Addr} {H : Hp} {i : Str} {v : V} (h : Rep K μ H (.str i) v) : v = .str i := by simpa only [Rep] using h
theorem d_bl {K : PySem.W.Frag} {μ : List Addr} {H : Hp} {i : Bool} {v : V} (h : Rep K μ H (.bl i) v) : v = .bl i := by simpa only [Rep] using h
theorem d_non {K : PySem.W.Frag} {μ : List Addr} {H : Hp} {v : V} (h : Rep K μ H .non v) : v = .non := by simpa only [Rep] using h
theorem d_tup {K : PySem.W.Frag} {μ : List Addr} {H : Hp} {ds : List D} {v : V} (h : Rep K μ H (.tup ds) v) : ∃ a vs, v = .ref a ∧ SqT K H a vs ∧ Reps K μ H ds vs := by simpa only [Rep] using h
theorem d_ref {K : PySem.W.Frag} {μ : List Addr} {H : Hp} {n : Nat} {v : V} (h : Rep K μ H (.ref n) v) : ∃ a, μ[n]? = some a ∧ v = .ref a := by simpa only [Rep] using h
theorem r_int {K : PySem.W.Frag} {μ : List Addr} {H : Hp} {i : Int} : (RD K).r H μ H (.int i) (.int i) := by simp only [RD, Rep]
theorem r_str {K : PySem.W.Frag} {μ : List Addr} {H : Hp} {i : Str} : (RD K).r H μ H (.str i) (.str i) := by simp only [RD, Rep]
theorem r_bl {K : PySem.W.Frag} {μ : List Addr} {H : Hp} {i : Bool} : (RD K).r H μ H (.bl i) (.bl i) := by simp only [RD, Rep]
theorem r_non {K : PySem.W.Frag} {μ : List Addr} {H : Hp} : (RD K).r H μ H .non .non := by simp only [RD, Rep]
theorem r_tup {K : PySem.W.Frag} {μ : List Addr} {H : Hp} {ds : List D} {a : Addr} {vs : List V} (h : SqT K H a vs) (r : Reps K μ H ds vs) : (RD K).r H μ H (.tup ds) (.ref a) := by
  simp only [RD, Rep]; exact ⟨a, vs, rfl, h, r⟩
theorem OpR.imp {f : Value → Value → Sem Value} {r r' : R2} (h : OpR X f r) (k : ∀ x y H Q, r' x y H Q → r x y H Q) : OpR X f r' :=
  fun pins s σ H x y v u Q I rx ry q => h pins s σ H x y v u Q I rx ry (k x y H Q q)

/-- truths among numbers -/
def rMix (g : Int → Int → Int) : R2 := fun x y H Q => (∃ i b, x = .int i ∧ y = .bl b ∧ Q (.int (g i (dI b))) H) ∨ (∃ b i, x = .bl b ∧ y = .int i ∧ Q (.int (g (dI b) i)) H) ∨ (∃ a b, x = .bl a ∧ y = .bl b ∧ Q (.int (g (dI a) (dI b))) H)
theorem op_add_mix : OpR X (binaryOp .Add) (rMix fun i j => i + j) := by
  intro pins s σ H x y v u Q I rx ry h
  rcases h with ⟨i, b, rfl, rfl, q⟩ | ⟨b, i, rfl, rfl, q⟩ | ⟨a, b, rfl, rfl, q⟩
  · obtain ⟨t, rfl⟩ := rx; cases ry
    exact add_int_bool ⟨.int (i + dI b), H, I.tok _, ⟨_, rfl⟩, q⟩
  · obtain ⟨t, rfl⟩ := ry; cases rx
    exact IntBool.add_bool_int ⟨.int (dI b + i), H, I.tok _, ⟨_, rfl⟩, q⟩
  · cases rx; cases ry
    exact add_bool ⟨.int (dI a + dI b), H, I.tok _, ⟨_, rfl⟩, q⟩
theorem op_sub_mix : OpR X (binaryOp .Sub) (rMix fun i j => i - j) := by
  intro pins s σ H x y v u Q I rx ry h
  rcases h with ⟨i, b, rfl, rfl, q⟩ | ⟨b, i, rfl, rfl, q⟩ | ⟨a, b, rfl, rfl, q⟩
  · obtain ⟨t, rfl⟩ := rx; cases ry
    exact IntBool.sub_int_bool ⟨.int (i - dI b), H, I.tok _, ⟨_, rfl⟩, q⟩
  · obtain ⟨t, rfl⟩ := ry; cases rx
    exact IntBool.sub_bool_int ⟨.int (dI b - i), H, I.tok _, ⟨_, rfl⟩, q⟩
  · cases rx; cases ry
    exact sub_bool ⟨.int (dI a - dI b), H, I.tok _, ⟨_, rfl⟩, q⟩
theorem od_add : OpD X (RD X.K) (binaryOp .Add) oAdd := fun Wx => by
  refine OpR.imp ((op_add.or (op_add_str.or op_catA)).or op_add_mix) fun x y H Q ⟨μ, ah, dx, dy, S, rx, ry, hp⟩ => ?_
  unfold oAdd at hp
  split at hp
  · rw [d_int rx, d_int ry]; exact .inl (.inl ⟨_, _, rfl, rfl, hp.ok1 S r_int⟩)
  · split at hp
    · rename_i hl
      rw [d_str rx, d_str ry]; exact .inl (.inr (.inl ⟨_, _, rfl, rfl, line_le hl, hp.ok1 S r_str⟩))
    · exact hp.elim
  · split at hp
    · rename_i ah' xs ys hl
      obtain ⟨a, vs, rfl, hx, r1⟩ := d_tup rx
      obtain ⟨b, ws, rfl, hy, r2⟩ := d_tup ry
      have l1 := r1.length
      have l2 := r2.length
      refine .inl (.inr (.inr ⟨a, b, vs, ws, rfl, rfl, hx, hy, line_le (by omega), ?_⟩))
      refine ⟨fun e => hp.ok1 S (r_tup hy ?_), fun _ e => hp.ok1 S (r_tup hx ?_), fun _ _ p np => hp.newT S (r1.append r2) np⟩
      · subst e
        have z := List.length_eq_zero_iff.mp l1
        rw [z]; exact r2
      · subst e
        have z := List.length_eq_zero_iff.mp l2
        rw [z, List.append_nil]; exact r1
    · exact hp.elim
  · rw [d_int rx, d_bl ry]; exact .inr (.inl ⟨_, _, rfl, rfl, hp.ok1 S r_int⟩)
  · rw [d_bl rx, d_int ry]; exact .inr (.inr (.inl ⟨_, _, rfl, rfl, hp.ok1 S r_int⟩))
  · rw [d_bl rx, d_bl ry]; exact .inr (.inr (.inr ⟨_, _, rfl, rfl, hp.ok1 S r_int⟩))
  · exact hp.elim
theorem od_sub : OpD X (RD X.K) (binaryOp .Sub) oSub := fun Wx => by
  refine OpR.imp (op_sub.or op_sub_mix) fun x y H Q ⟨μ, ah, dx, dy, S, rx, ry, hp⟩ => ?_
  unfold oSub at hp
  split at hp
  · rw [d_int rx, d_int ry]; exact .inl ⟨_, _, rfl, rfl, hp.ok1 S r_int⟩
  · rw [d_int rx, d_bl ry]; exact .inr (.inl ⟨_, _, rfl, rfl, hp.ok1 S r_int⟩)
  · rw [d_bl rx, d_int ry]; exact .inr (.inr (.inl ⟨_, _, rfl, rfl, hp.ok1 S r_int⟩))
  · rw [d_bl rx, d_bl ry]; exact .inr (.inr (.inr ⟨_, _, rfl, rfl, hp.ok1 S r_int⟩))
  · exact hp.elim
theorem od_mul : OpD X (RD X.K) (binaryOp .Mult) oMul := fun Wx => by
  refine OpR.imp (op_mulW.or op_repT) fun x y H Q ⟨μ, ah, dx, dy, S, rx, ry, hp⟩ => ?_
  unfold oMul at hp
  split at hp
  · split at hp
    · rename_i hl
      rw [d_int rx, d_int ry]; exact .inl ⟨_, _, rfl, rfl, by unfold CMulW; unfold mulOk at hl; exact of_decide_eq_true hl, hp.ok1 S r_int⟩
    · exact hp.elim
  · split at hp
    · rename_i ah' xs k hl
      obtain ⟨a, vs, rfl, hx, r1⟩ := d_tup rx
      rw [d_int ry]
      have l1 := r1.length
      refine .inr ⟨a, k, vs, rfl, rfl, hx, fun e => hl.1 (List.length_eq_zero_iff.mp (by rw [l1, e]; rfl)), hl.2.1, hl.2.2.1, by omega, fun p np => hp.newT S ?_ np⟩
      have rep : ∀ n : Nat, Reps X.K μ H (List.replicate n xs).flatten (List.replicate n vs).flatten := fun n => by
        induction n with
        | zero => exact Reps.nil
        | succ n ih => rw [List.replicate_succ, List.replicate_succ, List.flatten_cons, List.flatten_cons]; exact r1.append ih
      exact rep _
    · exact hp.elim
  · exact hp.elim
theorem od_fdiv : OpD X (RD X.K) (binaryOp .FloorDiv) oFdiv := fun Wx => by
  refine OpR.imp op_fdivW fun x y H Q ⟨μ, ah, dx, dy, S, rx, ry, hp⟩ => ?_
  unfold oFdiv at hp
  split at hp
  · split at hp
    · rename_i hl
      rw [d_int rx, d_int ry]; exact ⟨_, _, rfl, rfl, hl, hp.ok1 S r_int⟩
    · exact hp.elim
  · exact hp.elim
theorem od_mod : OpD X (RD X.K) (binaryOp .Mod) oMod := fun Wx => by
  refine OpR.imp op_mod fun x y H Q ⟨μ, ah, dx, dy, S, rx, ry, hp⟩ => ?_
  unfold oMod at hp
  split at hp
  · split at hp
    · rename_i hl
      rw [d_int rx, d_int ry]; exact ⟨_, _, rfl, rfl, hl, hp.ok1 S r_int⟩
    · exact hp.elim
  · exact hp.elim
theorem od_pow : OpD X (RD X.K) (binaryOp .Pow) oPow := fun Wx => by
  refine OpR.imp op_pow fun x y H Q ⟨μ, ah, dx, dy, S, rx, ry, hp⟩ => ?_
  unfold oPow at hp
  split at hp
  · split at hp
    · rename_i hl
      rw [d_int rx, d_int ry]; exact ⟨_, _, rfl, rfl, hl, hp.ok1 S r_int⟩
    · exact hp.elim
  · exact hp.elim

end
end HA

/-! HA4: data as a whole (PyData): what is read in the heap, repr. -/
namespace HA
open PySem PySem.Spec PyProof.Rows L2

/-- d is read at v; no dict of it is the table of modules -/
inductive SR (h : Heap) : Value → PyData → Prop where
  | none : SR h .none .none
  | bool (b : Bool) : SR h (.bool b) (.bool b)
  | int (i : Int) (t : Tok) : SR h (.int i t) (.int i)
  | str (x : Str) (t : Tok) : SR h (.str x t) (.str x)
  | list {a : Addr} {o : Obj} {us : Array Value} {n : Nat} {ps : List PyData} : h.get? a = some o → o.cls = .type "list" → o.data = .seq us n → (us.toList.length = ps.length) → (∀ (i : Nat) u p, us.toList[i]? = some u → ps[i]? = some p → SR h u p) → SR h (.ref a) (.list ps)
  | tuple {a : Addr} {o : Obj} {us : Array Value} {n : Nat} {ps : List PyData} : h.get? a = some o → o.cls = .type "tuple" → o.data = .seq us n → (us.toList.length = ps.length) → (∀ (i : Nat) u p, us.toList[i]? = some u → ps[i]? = some p → SR h u p) → SR h (.ref a) (.tuple ps)
  | dict {a : Addr} {o : Obj} {es : Array DictEntry} {n : Nat} {kvs : List (PyData × PyData)} : h.get? a = some o → o.cls = .type "dict" → o.data = .dict es n → (a == sysModules) = false → es.toList.length = kvs.length →
      (∀ (i : Nat) e q, es.toList[i]? = some e → kvs[i]? = some q → SR h e.key q.1) → (∀ (i : Nat) e q, es.toList[i]? = some e → kvs[i]? = some q → SR h e.val q.2) → SR h (.ref a) (.dict kvs)

theorem readsAll_mk {h : Heap} : ∀ (us : List Value) (ps : List PyData), us.length = ps.length → (∀ (i : Nat) u p, us[i]? = some u → ps[i]? = some p → ∃ as, Reads h u p as) → ∃ as, ReadsAll h us ps as
  | [], [], _, _ => ⟨_, .nil⟩
  | u :: us, p :: ps, hl, hf => by
    obtain ⟨as, h1⟩ := hf 0 u p rfl rfl
    obtain ⟨bs, h2⟩ := readsAll_mk us ps (by simpa using hl) fun i u' p' e1 e2 => hf (i + 1) u' p' (by simpa using e1) (by simpa using e2)
    exact ⟨_, .cons h1 h2⟩
  | [], _ :: _, hl, _ => by simp at hl
  | _ :: _, [], hl, _ => by simp at hl
theorem SR.reads {h : Heap} {v : Value} {d : PyData} (r : SR h v d) : ∃ as, Reads h v d as := by
  induction r with
  | none => exact ⟨_, .none⟩
  | bool b => exact ⟨_, .bool b⟩
  | int i t => exact ⟨_, .int i t⟩
  | str x t => exact ⟨_, .str x t⟩
  | list h1 h2 h3 h4 _ ih =>
    obtain ⟨as, q⟩ := readsAll_mk _ _ h4 ih
    exact ⟨_, .list h1 h2 h3 q⟩
  | tuple h1 h2 h3 h4 _ ih =>
    obtain ⟨as, q⟩ := readsAll_mk _ _ h4 ih
    exact ⟨_, .tuple h1 h2 h3 q⟩
  | @dict a o es n kvs h1 h2 h3 _ h4 _ _ ih1 ih2 =>
    have k1 : ∃ as, ReadsAll h (es.toList.map (·.key)) (kvs.map (·.1)) as := readsAll_mk _ _ (by simpa using h4) fun i u p e1 e2 => by
      rw [List.getElem?_map] at e1 e2
      cases q1 : es.toList[i]? with
      | none => rw [q1] at e1; cases e1
      | some e =>
        cases q2 : kvs[i]? with
        | none => rw [q2] at e2; cases e2
        | some q =>
          rw [q1] at e1; rw [q2] at e2; cases e1; cases e2
          exact ih1 i e q q1 q2
    have k2 : ∃ as, ReadsAll h (es.toList.map (·.val)) (kvs.map (·.2)) as := readsAll_mk _ _ (by simpa using h4) fun i u p e1 e2 => by
      rw [List.getElem?_map] at e1 e2
      cases q1 : es.toList[i]? with
      | none => rw [q1] at e1; cases e1
      | some e =>
        cases q2 : kvs[i]? with
        | none => rw [q2] at e2; cases e2
        | some q =>
          rw [q1] at e1; rw [q2] at e2; cases e1; cases e2
          exact ih2 i e q q1 q2
    obtain ⟨as, k1⟩ := k1
    obtain ⟨bs, k2⟩ := k2
    exact ⟨_, .dict h1 h2 h3 k1 k2⟩

/-! ### repr -/
section
variable {prog : Program} {w : World} {h : Heap}
def RK (prog : Program) (w : World) (h : Heap) (u : Value) (p : PyData) : Prop := p.showable = true → p.shown.length ≤ sizeLine → ∃ bs, ReadAtMost h p.depth bs ∧ ReprK prog w bs h p.depth u p.shown
theorem rk_all : ∀ (us : List Value) (ps : List PyData), us.length = ps.length → (∀ (i : Nat) u p, us[i]? = some u → ps[i]? = some p → RK prog w h u p) → PyData.showableAll ps = true → (∀ t ∈ PyData.shownAll ps, t.length ≤ sizeLine) →
    ∃ bs, ReadAtMost h (PyData.depthAll ps) bs ∧ ReprAllK prog w bs h (PyData.depthAll ps) us (PyData.shownAll ps)
  | [], [], _, _, _, _ => ⟨[], (fun _ z => nomatch z), by simp only [PyData.shownAll]; exact .nil⟩
  | [], _ :: _, hl, _, _, _ => by simp at hl
  | _ :: _, [], hl, _, _, _ => by simp at hl
  | u :: us, p :: ps, hl, hf, hs, hz => by
    simp only [PyData.showableAll, Bool.and_eq_true] at hs
    simp only [PyData.shownAll, List.mem_cons] at hz
    obtain ⟨c1, m1, q1⟩ := hf 0 u p rfl rfl hs.1 (hz _ (.inl rfl))
    obtain ⟨c2, m2, q2⟩ := rk_all us ps (by simpa using hl) (fun i u' p' e1 e2 => hf (i + 1) u' p' (by simpa using e1) (by simpa using e2)) hs.2 fun t ht => hz t (.inr ht)
    have l1 : p.depth ≤ PyData.depthAll (p :: ps) := by simp only [PyData.depthAll]; exact Nat.le_max_left _ _
    have l2 : PyData.depthAll ps ≤ PyData.depthAll (p :: ps) := by simp only [PyData.depthAll]; exact Nat.le_max_right _ _
    refine ⟨c1 ++ c2, (m1.mono l1).append (m2.mono l2), ?_⟩
    simp only [PyData.shownAll]
    exact .cons ((q1.more fun b z => List.mem_append.mpr (.inl z)).level_le l1) (q2.more_le (fun b z => List.mem_append.mpr (.inr z)) l2)
/-- what the three containers tell of themselves: the class's slots, the call of the built-in -/
theorem rk_list {a : Addr} {o : Obj} {us : Array Value} {n : Nat} {ps : List PyData} (h1 : h.get? a = some o) (h2 : o.cls = .type "list") (h3 : o.data = .seq us n) (rd : ∃ as, Reads h (.ref a) (.list ps) as) (hl : us.toList.length = ps.length)
    (hf : ∀ (i : Nat) u p, us.toList[i]? = some u → ps[i]? = some p → RK prog w h u p) (hs : PyData.showable (.list ps) = true) (hz : (PyData.shown (.list ps)).length ≤ sizeLine) :
    ∃ bs, ReadAtMost h (PyData.depthAll ps) bs ∧ a ∉ bs ∧ ReprAllK prog w bs h (PyData.depthAll ps) us.toList (PyData.shownAll ps) := by
  simp only [PyData.shown] at hz
  simp only [PyData.showable] at hs
  obtain ⟨bs, hb, hk⟩ := rk_all us.toList ps hl hf hs fun t ht => Nat.le_trans (listText_mem_le ht) hz
  obtain ⟨as, r⟩ := rd
  exact ⟨bs, hb, not_mem_of_deeper r (by simp only [PyData.depth]; omega) hb, hk⟩
theorem rk_tuple {a : Addr} {o : Obj} {us : Array Value} {n : Nat} {ps : List PyData} (h1 : h.get? a = some o) (h2 : o.cls = .type "tuple") (h3 : o.data = .seq us n) (rd : ∃ as, Reads h (.ref a) (.tuple ps) as) (hl : us.toList.length = ps.length)
    (hf : ∀ (i : Nat) u p, us.toList[i]? = some u → ps[i]? = some p → RK prog w h u p) (hs : PyData.showable (.tuple ps) = true) (hz : (PyData.shown (.tuple ps)).length ≤ sizeLine) :
    ∃ bs, ReadAtMost h (PyData.depthAll ps) bs ∧ a ∉ bs ∧ ReprAllK prog w bs h (PyData.depthAll ps) us.toList (PyData.shownAll ps) := by
  simp only [PyData.shown] at hz
  simp only [PyData.showable] at hs
  obtain ⟨bs, hb, hk⟩ := rk_all us.toList ps hl hf hs fun t ht => Nat.le_trans (tupleText_mem_le ht) hz
  obtain ⟨as, r⟩ := rd
  exact ⟨bs, hb, not_mem_of_deeper r (by simp only [PyData.depth]; omega) hb, hk⟩
theorem map_get {α β : Type} {f : α → β} {l : List α} {i : Nat} {b : β} (e : (l.map f)[i]? = some b) : ∃ a, l[i]? = some a ∧ b = f a := by
  rw [List.getElem?_map] at e
  cases q : l[i]? with
  | none => rw [q] at e; cases e
  | some a => rw [q] at e; cases e; exact ⟨a, rfl, rfl⟩
theorem rk_dict {a : Addr} {o : Obj} {es : Array DictEntry} {n : Nat} {kvs : List (PyData × PyData)} (h1 : h.get? a = some o) (h2 : o.cls = .type "dict") (h3 : o.data = .dict es n) (rd : ∃ as, Reads h (.ref a) (.dict kvs) as) (hl : es.toList.length = kvs.length)
    (hf : ∀ (i : Nat) e q, es.toList[i]? = some e → kvs[i]? = some q → RK prog w h e.key q.1) (hg : ∀ (i : Nat) e q, es.toList[i]? = some e → kvs[i]? = some q → RK prog w h e.val q.2) (hs : PyData.showable (.dict kvs) = true) (hz : (PyData.shown (.dict kvs)).length ≤ sizeLine) :
    ∃ bs, ReadAtMost h (PyData.depthKv kvs) bs ∧ a ∉ bs ∧ ReprEntriesK prog w bs h (PyData.depthKv kvs) es.toList (PyData.shownKv kvs) := by
  simp only [PyData.shown] at hz
  simp only [PyData.showable] at hs
  obtain ⟨s1, s2⟩ := PyData.showableKv_split kvs hs
  have up : ∀ (t : Str) (p : Str), p ∈ PyData.shownKv kvs → t.length ≤ p.length → t.length ≤ sizeLine := fun t p hp ht => Nat.le_trans ht (Nat.le_trans (dictText_mem_le hp) hz)
  obtain ⟨c1, m1, q1⟩ := rk_all (prog := prog) (w := w) (h := h) (es.toList.map (·.key)) (kvs.map (·.1)) (by simpa using hl) (fun i u p e1 e2 => by
    obtain ⟨e, x1, rfl⟩ := map_get e1
    obtain ⟨q, x2, rfl⟩ := map_get e2
    exact hf i e q x1 x2) s1 fun t ht => let ⟨p, hp, l⟩ := PyData.shownKv_key_le kvs t ht; up t p hp l
  obtain ⟨c2, m2, q2⟩ := rk_all (prog := prog) (w := w) (h := h) (es.toList.map (·.val)) (kvs.map (·.2)) (by simpa using hl) (fun i u p e1 e2 => by
    obtain ⟨e, x1, rfl⟩ := map_get e1
    obtain ⟨q, x2, rfl⟩ := map_get e2
    exact hg i e q x1 x2) s2 fun t ht => let ⟨p, hp, l⟩ := PyData.shownKv_val_le kvs t ht; up t p hp l
  obtain ⟨as, r⟩ := rd
  have hb : ReadAtMost h (PyData.depthKv kvs) (c1 ++ c2) := (m1.mono (PyData.depthAll_keys_le kvs)).append (m2.mono (PyData.depthAll_vals_le kvs))
  refine ⟨c1 ++ c2, hb, not_mem_of_deeper r (by simp only [PyData.depth]; omega) hb, ?_⟩
  rw [PyData.shownKv_eq]
  exact ReprEntriesK.of_two es.toList _ _ (q1.more_le (fun b z => List.mem_append.mpr (.inl z)) (PyData.depthAll_keys_le kvs)) (q2.more_le (fun b z => List.mem_append.mpr (.inr z)) (PyData.depthAll_vals_le kvs))
theorem SR.rk {v : Value} {d : PyData} (r : SR h v d) : RK prog w h v d := by
  induction r with
  | none => exact fun _ _ => ⟨[], (fun _ z => nomatch z), by simp only [PyData.shown]; exact .of_is ReprIs.none _ _ _⟩
  | bool b => exact fun _ _ => ⟨[], (fun _ z => nomatch z), by simp only [PyData.shown]; exact .of_is (ReprIs.bool b) _ _ _⟩
  | int i t => exact fun hs _ => ⟨[], (fun _ z => nomatch z), by simp only [PyData.shown]; exact .of_is (ReprIs.int t (by simpa [PyData.showable] using hs)) _ _ _⟩
  | str x t => exact fun _ hz => ⟨[], (fun _ z => nomatch z), by simp only [PyData.shown] at hz ⊢; exact .of_is (ReprIs.str x t hz) _ _ _⟩
  | @list a o us n ps h1 h2 h3 h4 h5 ih =>
    intro hs hz
    have rd := (SR.list h1 h2 h3 h4 h5).reads
    obtain ⟨bs, hb, hna, hk⟩ := rk_list h1 h2 h3 rd h4 ih hs hz
    obtain ⟨as, r⟩ := rd
    refine ⟨a :: bs, ReadAtMost.cons r (by simp only [PyData.depth]; omega) hb, ?_⟩
    simp only [PyData.depth, PyData.shown]
    obtain ⟨l⟩ := us
    cases l with
    | nil =>
      cases ps with
      | nil =>
        simp only [PyData.shownAll, listText_nil]
        exact ReprK.listEmpty h1 h2 h3
      | cons _ _ => simp at h4
    | cons x l => exact ReprK.list h1 h2 h3 hna (by simpa using hk.length_eq) fun i y e => hk.item i y (by simpa using e)
  | @tuple a o us n ps h1 h2 h3 h4 h5 ih =>
    intro hs hz
    have rd := (SR.tuple h1 h2 h3 h4 h5).reads
    obtain ⟨bs, hb, hna, hk⟩ := rk_tuple h1 h2 h3 rd h4 ih hs hz
    obtain ⟨as, r⟩ := rd
    refine ⟨a :: bs, ReadAtMost.cons r (by simp only [PyData.depth]; omega) hb, ?_⟩
    simp only [PyData.depth, PyData.shown]
    exact ReprK.tuple h1 h2 h3 hna hk
  | @dict a o es n kvs h1 h2 h3 hsys h4 h5 h6 ih1 ih2 =>
    intro hs hz
    have rd := (SR.dict h1 h2 h3 hsys h4 h5 h6).reads
    obtain ⟨bs, hb, hna, hk⟩ := rk_dict h1 h2 h3 rd h4 ih1 ih2 hs hz
    obtain ⟨as, r⟩ := rd
    refine ⟨a :: bs, ReadAtMost.cons r (by simp only [PyData.depth]; omega) hb, ?_⟩
    simp only [PyData.depth, PyData.shown]
    exact ReprK.dict h1 h2 h3 hsys hna hk
theorem SR.shows {a : Addr} {d : PyData} (r : SR h (.ref a) d) (hs : d.showable = true) (hz : d.shown.length ≤ sizeLine) : ∃ T idr, ShowsBy prog w h a d T idr := by
  have rd := r.reads
  cases r with
  | @list _ o us n ps h1 h2 h3 h4 h5 =>
    obtain ⟨bs, hb, hna, hk⟩ := rk_list h1 h2 h3 rd h4 (fun i u p e1 e2 => (h5 i u p e1 e2).rk) hs hz
    refine ⟨"list", "list.__repr__", F.slot_list_repr.toG, F.slot_list_str, F.slot_list_format, fun s k0 => ⟨o, k0 _ _ h1, h2⟩, fun A E s Q hg hu k0 hQ => ?_⟩
    simp only [PyData.depth] at hu
    simp only [PyData.shown] at hQ hz
    obtain ⟨l⟩ := us
    cases l with
    | nil =>
      cases ps with
      | nil =>
        simp only [PyData.shownAll, listText_nil] at hQ
        exact call_list_repr_empty ⟨o, k0 _ _ h1, h2⟩ (k0 _ _ h1) h3 (hQ s.heap _ _ fun _ _ e => e)
      | cons _ _ => simp at h4
    | cons x l => exact call_list_reprK h1 h2 h3 hna (by simpa using hk.length_eq) (fun i y e => hk.item i y (by simpa using e)) hg (fun b _ => Clear.nil b) hu k0 hQ hz
  | @tuple _ o us n ps h1 h2 h3 h4 h5 =>
    obtain ⟨bs, hb, hna, hk⟩ := rk_tuple h1 h2 h3 rd h4 (fun i u p e1 e2 => (h5 i u p e1 e2).rk) hs hz
    refine ⟨"tuple", "tuple.__repr__", F.slot_tuple_repr, F.slot_tuple_str, F.slot_tuple_format, fun s k0 => ⟨o, k0 _ _ h1, h2⟩, fun A E s Q hg hu k0 hQ => ?_⟩
    simp only [PyData.depth] at hu
    simp only [PyData.shown] at hQ hz
    exact call_tuple_reprK h1 h2 h3 hna hk hg (fun b _ => Clear.nil b) hu k0 hQ hz
  | @dict _ o es n kvs h1 h2 h3 hsys h4 h5 h6 =>
    obtain ⟨bs, hb, hna, hk⟩ := rk_dict h1 h2 h3 rd h4 (fun i u p e1 e2 => (h5 i u p e1 e2).rk) (fun i u p e1 e2 => (h6 i u p e1 e2).rk) hs hz
    refine ⟨"dict", "dict.__repr__", F.slot_dict_repr, F.slot_dict_str, F.slot_dict_format, fun s k0 => ⟨o, k0 _ _ h1, h2⟩, fun A E s Q hg hu k0 hQ => ?_⟩
    simp only [PyData.depth] at hu
    simp only [PyData.shown] at hQ hz
    exact call_dict_reprK h1 h2 h3 hsys hna hk hg (fun b _ => Clear.nil b) hu k0 hQ hz
/-- repr(v) of data -/
theorem SR.repr {v : Value} {d : PyData} {A : Around} {E : Value → Shared → Prop} {s : Shared} {Q : Value → Shared → Prop} (r : SR s.heap v d) (hs : d.showable = true) (hz : d.shown.length ≤ sizeLine) (hg : A.guards = some []) (hu : A.units + (d.depth + 1) < cLine)
    (hQ : ∀ h' u tk, (∀ b o, s.heap.get? b = some o → h'.get? b = some o) → Q (.str d.shown u) { s with heap := h', toks := tk }) : wpAny (model prog w) A (call (.builtin "repr") [v]) Q E s := by
  have r' := r
  cases r with
  | none => simp only [PyData.shown] at hQ; exact PySem.P.repr_of_none (hQ s.heap _ _ fun _ _ e => e)
  | bool b => simp only [PyData.shown] at hQ; exact PySem.P.repr_of_bool (hQ s.heap _ _ fun _ _ e => e)
  | int i t => simp only [PyData.shown] at hQ; exact PySem.P.repr_of_int (by simpa [PyData.showable] using hs) (hQ s.heap _ _ fun _ _ e => e)
  | str x t => simp only [PyData.shown] at hQ hz; exact PySem.P.repr_of_str (hQ s.heap _ _ fun _ _ e => e) hz
  | list _ _ _ _ _ =>
    obtain ⟨T, idr, S⟩ := SR.shows (prog := prog) (w := w) r' hs hz
    exact call_repr_slot (by omega) (S.typeIs s fun _ _ e => e) S.slotRepr (S.call A.in1 E s _ hg (by show A.units + 1 + _ < cLine; omega) (fun _ _ e => e) fun h' u tk hk => ⟨_, _, rfl, hQ h' u tk hk⟩)
  | tuple _ _ _ _ _ =>
    obtain ⟨T, idr, S⟩ := SR.shows (prog := prog) (w := w) r' hs hz
    exact call_repr_slot (by omega) (S.typeIs s fun _ _ e => e) S.slotRepr (S.call A.in1 E s _ hg (by show A.units + 1 + _ < cLine; omega) (fun _ _ e => e) fun h' u tk hk => ⟨_, _, rfl, hQ h' u tk hk⟩)
  | dict _ _ _ _ _ _ _ =>
    obtain ⟨T, idr, S⟩ := SR.shows (prog := prog) (w := w) r' hs hz
    exact call_repr_slot (by omega) (S.typeIs s fun _ _ e => e) S.slotRepr (S.call A.in1 E s _ hg (by show A.units + 1 + _ < cLine; omega) (fun _ _ e => e) fun h' u tk hk => ⟨_, _, rfl, hQ h' u tk hk⟩)
end

/-! ### from our objects -/
def optAll {α β : Type} (f : α → Option β) : List α → Option (List β)
  | [] => some []
  | a :: r => match f a, optAll f r with
    | some b, some bs => some (b :: bs)
    | _, _ => none
theorem optAll_cons {α β : Type} {f : α → Option β} {a : α} {r : List α} {bs : List β} (h : optAll f (a :: r) = some bs) : ∃ b cs, bs = b :: cs ∧ f a = some b ∧ optAll f r = some cs := by
  unfold optAll at h
  split at h
  · rename_i b cs h1 h2
    cases h
    exact ⟨b, cs, rfl, h1, h2⟩
  · cases h
theorem optAll_length {α β : Type} {f : α → Option β} : ∀ {l : List α} {bs : List β}, optAll f l = some bs → l.length = bs.length
  | [], bs, h => by cases h; rfl
  | a :: r, bs, h => by
    obtain ⟨b, cs, rfl, _, h2⟩ := optAll_cons h
    simp [optAll_length h2]
theorem optAll_get {α β : Type} {f : α → Option β} : ∀ {l : List α} {bs : List β} {i : Nat} {a : α} {b : β}, optAll f l = some bs → l[i]? = some a → bs[i]? = some b → f a = some b
  | [], bs, i, a, b, h, e, _ => by simp at e
  | x :: r, bs, i, a, b, h, e1, e2 => by
    obtain ⟨y, cs, rfl, h1, h2⟩ := optAll_cons h
    cases i with
    | zero => simp at e1 e2; subst e1; subst e2; exact h1
    | succ i => exact optAll_get (i := i) h2 (by simpa using e1) (by simpa using e2)
def keyP : Key → PyData
  | .inl i => .int i
  | .inr x => .str x
/-- the datum, references followed -/
def toP (ah : AH) : Nat → D → Option PyData
  | 0, _ => none
  | f + 1, d => match d with
    | .non => some .none
    | .bl b => some (.bool b)
    | .int i => some (.int i)
    | .str x => some (.str x)
    | .tup ds => (optAll (toP ah f) ds).map .tuple
    | .ref n => match ah[n]? with
      | some (.lst ds) => (optAll (toP ah f) ds).map .list
      | some (.ro ds) => (optAll (toP ah f) ds).map .list
      | some (.dK kvs) => (optAll (toP ah f) (kvs.map (·.2))).map fun vs => .dict ((kvs.map fun kv => keyP kv.1).zip vs)
      | _ => none
    | .cst _ => none
/-- deep enough for all -/
def deep : Nat := 63
abbrev pd (ah : AH) (d : D) : Option PyData := toP ah deep d

theorem pairs_get {P : Program} {w : World} {es : List DictEntry} {kvs : List (Key × Value)} (p : Pairs (mixKind P w) es kvs) : es.length = kvs.length ∧ ∀ (i : Nat) e q, es[i]? = some e → kvs[i]? = some q → keyIs q.1 e.key = true ∧ e.val = q.2 := by
  induction p with
  | nil => exact ⟨rfl, fun i e q z => by simp at z⟩
  | cons h1 h2 _ ih =>
    refine ⟨by simp [ih.1], fun i e q z1 z2 => ?_⟩
    cases i with
    | zero => simp at z1 z2; subst z1; subst z2; exact ⟨h1, h2⟩
    | succ i => exact ih.2 i e q (by simpa using z1) (by simpa using z2)
theorem kv_get {kvs : List (Key × V)} {vs : List (Key × Value)} (r : KV kvs vs) : kvs.length = vs.length ∧ ∀ (i : Nat) a b, kvs[i]? = some a → vs[i]? = some b → a.1 = b.1 ∧ RelV a.2 b.2 := by
  refine ⟨KV.length r, ?_⟩
  induction r with
  | nil => exact fun i a b z => by simp at z
  | cons h1 _ ih =>
    intro i a b z1 z2
    cases i with
    | zero => simp at z1 z2; subst z1; subst z2; exact h1
    | succ i => exact ih i a b (by simpa using z1) (by simpa using z2)
section
variable {X : Cx} {pins : List (Addr × Obj)} {σ : L2.St} {μ : List Addr} {H : Hp} {s : Shared} {ah : AH}
theorem Inv.sr (I : Inv X pins σ H s) (S : Sim X.K μ H ah) : ∀ (f : Nat) (d : D) (v : V) (u : Value) (p : PyData), toP ah f d = some p → Rep X.K μ H d v → RelV v u → SR s.heap u p
  | 0, _, _, _, _, h, _, _ => by cases h
  | f + 1, d, v, u, p, h, r, ru => by
    have seqs : ∀ (ds : List D) (vs : List V) (us : List Value) (ps : List PyData), optAll (toP ah f) ds = some ps → Reps X.K μ H ds vs → Vals vs us → us.length = ps.length ∧ ∀ (i : Nat) u p, us[i]? = some u → ps[i]? = some p → SR s.heap u p := fun ds vs us ps h1 h2 h3 => by
      refine ⟨by rw [← h3.length, ← h2.length]; exact optAll_length h1, fun i u p e1 e2 => ?_⟩
      have hi : i < ds.length := by rw [optAll_length h1]; exact (List.getElem?_eq_some_iff.mp e2).1
      have e3 : ds[i]? = some ds[i] := List.getElem?_eq_getElem hi
      obtain ⟨v, e4, rv⟩ := h2.get e3
      obtain ⟨u', e5, ru'⟩ := h3.get e4
      rw [e1] at e5; cases e5
      exact Inv.sr I S f _ v u p (optAll_get h1 e3 e2) rv ru'
    cases d with
    | non => cases h; rw [d_non r] at ru; cases ru; exact .none
    | bl b => cases h; rw [d_bl r] at ru; cases ru; exact .bool b
    | int i => cases h; rw [d_int r] at ru; obtain ⟨t, rfl⟩ := ru; exact .int i t
    | str x => cases h; rw [d_str r] at ru; obtain ⟨t, rfl⟩ := ru; exact .str x t
    | cst v => cases h
    | tup ds =>
      obtain ⟨ps, h1, rfl⟩ := Option.map_eq_some_iff.mp h
      obtain ⟨a, vs, rfl, q, r2⟩ := d_tup r
      cases ru
      obtain ⟨its, rv, ⟨o, e1, e2, n, e3⟩, _⟩ := I.tuple q
      obtain ⟨l, g⟩ := seqs ds vs its ps h1 r2 rv
      exact .tuple e1 e2 e3 l g
    | ref n =>
      obtain ⟨a, ea, rfl⟩ := d_ref r
      cases ru
      have lists : ∀ ds ps, listAt ah n = some ds → optAll (toP ah f) ds = some ps → SR s.heap (.ref a) (.list ps) := fun ds ps hl h1 => by
        obtain ⟨b, vs, eb, q, r2⟩ := S.list hl
        rw [ea] at eb; cases eb
        obtain ⟨its, rv, ⟨o, m, e1, e2, _, e3⟩, _⟩ := I.list q
        obtain ⟨l, g⟩ := seqs ds vs its ps h1 r2 rv
        exact .list e1 e2 e3 l g
      unfold toP at h
      dsimp only at h
      split at h
      · rename_i ds e
        obtain ⟨ps, h1, rfl⟩ := Option.map_eq_some_iff.mp h
        exact lists ds ps (by unfold listAt; rw [e]) h1
      · rename_i ds e
        obtain ⟨ps, h1, rfl⟩ := Option.map_eq_some_iff.mp h
        exact lists ds ps (by unfold listAt; rw [e]) h1
      · rename_i kvs e
        obtain ⟨ps, h1, rfl⟩ := Option.map_eq_some_iff.mp h
        obtain ⟨kws, e0, ek, r2⟩ := S.ok n a _ ea e
        obtain ⟨_, hsys, vs, rkv, o, es, ep, e1, e2, e3, _, pr, _⟩ := dk_of I.hok e0
        obtain ⟨l1, g1⟩ := pairs_get pr
        obtain ⟨l2, g2⟩ := kv_get rkv
        have l3 : kvs.length = kws.length := by simpa using congrArg List.length ek
        have l4 : (kvs.map (·.2)).length = ps.length := optAll_length h1
        rw [List.length_map] at l4
        have key : ∀ (i : Nat) e q, es.toList[i]? = some e → ((kvs.map fun kv => keyP kv.1).zip ps)[i]? = some q → SR s.heap e.key q.1 ∧ SR s.heap e.val q.2 := fun i e q x1 x2 => by
          obtain ⟨x3, x4⟩ := List.getElem?_zip_eq_some.mp x2
          obtain ⟨kv, x5, x6⟩ := map_get x3
          have hi : i < kws.length := by rw [← l3]; exact (List.getElem?_eq_some_iff.mp x5).1
          have x7 : kws[i]? = some kws[i] := List.getElem?_eq_getElem hi
          have x8 : vs[i]? = some (vs[i]'(by omega)) := List.getElem?_eq_getElem _
          obtain ⟨y1, y2⟩ := g2 i _ _ x7 x8
          obtain ⟨y3, y4⟩ := g1 i _ _ x1 x8
          have z1 : kv.1 = kws[i].1 := by
            have z := congrArg (fun l => l[i]?) ek
            simp only [List.getElem?_map, x5, x7, Option.map_some] at z
            exact Option.some.inj z
          have x9 : (kvs.map (·.2))[i]? = some kv.2 := by rw [List.getElem?_map, x5]; rfl
          obtain ⟨v, y5, y6⟩ := r2.get x9
          have z2 : v = kws[i].2 := by
            rw [List.getElem?_map, x7] at y5
            exact (Option.some.inj y5).symm
          subst z2
          refine ⟨?_, ?_⟩
          · rw [x6]
            rw [← y1, ← z1] at y3
            rcases keyIs_shape y3 with ⟨j, t, k1, k2⟩ | ⟨x, t, k1, k2⟩
            · rw [k1, k2]; exact .int j t
            · rw [k1, k2]; exact .str x t
          · rw [y4]
            exact Inv.sr I S f kv.2 _ _ q.2 (optAll_get h1 x9 x4) y6 y2
        refine .dict e1 e2.1 e3 hsys ?_ (fun i e q x1 x2 => (key i e q x1 x2).1) fun i e q x1 x2 => (key i e q x1 x2).2
        rw [l1, ← l2, List.length_zip, List.length_map]
        omega
      · cases h
end
end HA

/-! HA5: ==, in, is, order, truth, and/or/not, arguments, displays. -/
namespace HA
open PySem PySem.Spec PyProof.Rows L2

/-- room for calls, and no repr is under way -/
structure Rm (k : Nat) (A : Around) : Prop where
  room : Room k A
  gd : A.guards = some []
theorem Rm.mono {j k : Nat} {A : Around} (r : Rm k A) (h : j ≤ k) : Rm j A := ⟨r.room.mono h, r.gd⟩
theorem Rm.u65 {k : Nat} {A : Around} (r : Rm k A) : A.units + 65 < cLine := by have := r.room.un; omega
theorem Rm.u64 {k : Nat} {A : Around} (r : Rm k A) : A.units + 64 < cLine := by have := r.room.un; omega
theorem Rm.u1 {k : Nat} {A : Around} (r : Rm k A) : A.units + 1 < cLine := by have := r.room.un; omega

/-! ### == and != -/
def eqData (ah : AH) (x y : D) : Option Bool := match pd ah x, pd ah y with
  | some p, some q => if SeqAt.shaped p = true ∧ SeqAt.shaped q = true then some (PyData.eqv p q) else none
  | _, _ => none
/-- where the lengths tell -/
def eqLen (ah : AH) (x y : D) : Option Bool := match x, y with
  | .tup xs, .tup ys => if xs.isEmpty || ys.isEmpty then some (xs.isEmpty && ys.isEmpty) else none
  | .ref n, .ref m => match listAt ah n, listAt ah m with
    | some xs, some ys => if xs.length ≠ ys.length then some false else none
    | _, _ => none
  | _, _ => none
def cEq : D → D → AH → Res Bool
  | .int i, .int j, ah => .ok (decide (i = j)) ah
  | .str a, .str b, ah => .ok (decide (a = b)) ah
  | .bl a, .bl b, ah => .ok (decide (a = b)) ah
  | x, y, ah => match eqData ah x y with
    | some b => .ok b ah
    | none => match eqLen ah x y with
      | some b => .ok b ah
      | none => .stuck
def cNe (x y : D) (ah : AH) : Res Bool := (cEq x y ah).bind fun b ah => .ok (!b) ah
section
variable {X : Cx} {W : WX} {k : Nat}
theorem cEq_cases {x y : D} {ah : AH} {P : Res Bool → Prop} (h : P (cEq x y ah)) (h1 : ∀ i j, x = .int i → y = .int j → P (.ok (decide (i = j)) ah) → P (cEq x y ah)) : P (cEq x y ah) := h
theorem rEq_scal {K : PySem.W.Frag} {Wx : Value → Option Addr → Hp → Prop} {H : Hp} {Q : VK} {μ : List Addr} {ah : AH} {a b : V} {c : Bool} (hs : scal a b = true) (hc : decide (a = b) = c) (hp : Post K RBV Wx μ H Q (.ok c ah)) (S : Sim K μ H ah) : rEq a b H Q := ⟨hs, hp.ok1 S (by rw [hc]; rfl)⟩
theorem op_eqS (hu : X.A.units + 64 < cLine) : OpR X (compareOp .Eq) (fun x y H Q => ∃ μ ah dx dy b, Sim X.K μ H ah ∧ Rep X.K μ H dx x ∧ Rep X.K μ H dy y ∧ eqData ah dx dy = some b ∧ Q (.bl b) H) := by
  intro pins s σ H x y v u Q I rx ry ⟨μ, ah, dx, dy, b, S, r1, r2, e, q⟩
  unfold eqData at e
  split at e
  · rename_i p1 p2 e1 e2
    split at e
    · rename_i hs
      cases e
      obtain ⟨as, q1⟩ := (Inv.sr I S deep dx x v p1 e1 r1 rx).reads
      obtain ⟨bs, q2⟩ := (Inv.sr I S deep dy y u p2 e2 r2 ry).reads
      exact SeqAt.compareEq_shaped q1 q2 hs.1 hs.2 hu ⟨.bl _, H, I, rfl, q⟩
    · cases e
  · cases e
theorem op_neS (hu : X.A.units + 64 < cLine) : OpR X (compareOp .NotEq) (fun x y H Q => ∃ μ ah dx dy b, Sim X.K μ H ah ∧ Rep X.K μ H dx x ∧ Rep X.K μ H dy y ∧ eqData ah dx dy = some b ∧ Q (.bl (!b)) H) := by
  intro pins s σ H x y v u Q I rx ry ⟨μ, ah, dx, dy, b, S, r1, r2, e, q⟩
  unfold eqData at e
  split at e
  · rename_i p1 p2 e1 e2
    split at e
    · rename_i hs
      cases e
      obtain ⟨as, q1⟩ := (Inv.sr I S deep dx x v p1 e1 r1 rx).reads
      obtain ⟨bs, q2⟩ := (Inv.sr I S deep dy y u p2 e2 r2 ry).reads
      exact SeqAt.compareNe_shaped q1 q2 hs.1 hs.2 hu ⟨.bl _, H, I, rfl, q⟩
    · cases e
  · cases e
theorem range_empty {e : Nat → Bool} {m n : Nat} (h : m = 0 ∨ n = 0) : ((List.range (min m n)).all e && (m == n)) = (decide (m = 0) && decide (n = 0)) := by
  rcases h with h | h
  · subst h; simp; cases n <;> simp
  · subst h; simp; cases m <;> simp
theorem isEmpty_arr {α β : Type} {a : List α} {b : List β} (h : a.length = b.length) : a.isEmpty = decide (b.toArray.size = 0) := by
  cases a with
  | nil => cases b with
    | nil => rfl
    | cons y ys => simp at h
  | cons x xs => cases b with
    | nil => simp at h
    | cons y ys => simp
/-- what a rule needs of the things at both places -/
theorem eqLen_at {pins : List (Addr × Obj)} {σ : L2.St} {H : Hp} {s : Shared} {μ : List Addr} {ah : AH} {dx dy : D} {x y : V} {v u : Value} {b : Bool} (I : Inv X pins σ H s) (S : Sim X.K μ H ah) (r1 : Rep X.K μ H dx x) (r2 : Rep X.K μ H dy y) (rx : RelV x v) (ry : RelV y u) (e : eqLen ah dx dy = some b) (hu : X.A.units < cLine) :
    SeqAt.RcAt X.A s v u b ∧ SeqAt.RcNeAt X.A s v u (!b) := by
  unfold eqLen at e
  split at e
  · rename_i xs ys
    obtain ⟨a, vs, rfl, q1, rr1⟩ := d_tup r1
    obtain ⟨c, ws, rfl, q2, rr2⟩ := d_tup r2
    cases rx; cases ry
    obtain ⟨its, w1, p1, _⟩ := I.tuple q1
    obtain ⟨its2, w2, p2, _⟩ := I.tuple q2
    have l1 : xs.length = its.length := rr1.length.trans w1.length
    have l2 : ys.length = its2.length := rr2.length.trans w2.length
    split at e
    · rename_i hz
      cases e
      have hz' : its.toArray.size = 0 ∨ its2.toArray.size = 0 := by
        rw [isEmpty_arr l1, isEmpty_arr l2, Bool.or_eq_true, decide_eq_true_eq, decide_eq_true_eq] at hz
        exact hz
      have he : ∀ j (h1 : j < its.toArray.size) (h2 : j < its2.toArray.size), SeqAt.EqAt X.A.in1 s its.toArray[j] its2.toArray[j] ((fun _ => true) j) := fun j h1 h2 => by omega
      have A1 := SeqAt.RcAt.tuples (e := fun _ => true) p1 p2 hu he
      have A2 := SeqAt.RcNeAt.tuples (e := fun _ => true) p1 p2 hu he
      rw [range_empty hz'] at A1 A2
      rw [isEmpty_arr l1, isEmpty_arr l2]
      exact ⟨A1, A2⟩
    · cases e
  · rename_i n m
    split at e
    · rename_i xs ys e1 e2
      split at e
      · rename_i hz
        cases e
        obtain ⟨a, vs, m1, q1, rr1⟩ := S.list e1
        obtain ⟨c, ws, m2, q2, rr2⟩ := S.list e2
        obtain ⟨a', m1', rfl⟩ := d_ref r1
        obtain ⟨c', m2', rfl⟩ := d_ref r2
        rw [m1] at m1'; cases m1'
        rw [m2] at m2'; cases m2'
        cases rx; cases ry
        obtain ⟨its, w1, ⟨o1, n1, g1, c1, _, d1⟩, _⟩ := I.list q1
        obtain ⟨its2, w2, ⟨o2, n2, g2, c2, _, d2⟩, _⟩ := I.list q2
        have l1 : xs.length = its.length := rr1.length.trans w1.length
        have l2 : ys.length = its2.length := rr2.length.trans w2.length
        have hs : (its.toArray.size != its2.toArray.size) = true := by
          rw [List.size_toArray, List.size_toArray, bne_iff_ne]
          omega
        exact ⟨SeqAt.RcAt.lists_lengths ⟨o1, g1, c1, n1, d1⟩ ⟨o2, g2, c2, n2, d2⟩ hs hu, SeqAt.RcNeAt.lists_lengths ⟨o1, g1, c1, n1, d1⟩ ⟨o2, g2, c2, n2, d2⟩ hs hu⟩
      · cases e
    · cases e
  · cases e
def rLen (neg : Bool) (K : PySem.W.Frag) : R2 := fun x y H Q => ∃ μ ah dx dy b, Sim K μ H ah ∧ Rep K μ H dx x ∧ Rep K μ H dy y ∧ eqLen ah dx dy = some b ∧ Q (.bl (if neg = true then !b else b)) H
theorem op_eqLen (hu : X.A.units + 64 < cLine) : OpR X (compareOp .Eq) (rLen false X.K) := by
  intro pins s σ H x y v u Q I rx ry ⟨μ, ah, dx, dy, b, S, r1, r2, e, q⟩
  exact (eqLen_at I S r1 r2 rx ry e (by omega)).1 _ _ _ _ ⟨.bl b, H, I, rfl, q⟩
theorem op_neLen (hu : X.A.units + 64 < cLine) : OpR X (compareOp .NotEq) (rLen true X.K) := by
  intro pins s σ H x y v u Q I rx ry ⟨μ, ah, dx, dy, b, S, r1, r2, e, q⟩
  exact (eqLen_at I S r1 r2 rx ry e (by omega)).2 _ _ _ _ ⟨.bl (!b), H, I, rfl, q⟩
theorem od_eq (hr : Rm k X.A) : OpD X RBV (compareOp .Eq) cEq := fun Wx => by
  refine OpR.imp ((op_eq.or (op_eqS hr.u64)).or (op_eqLen hr.u64)) fun x y H Q ⟨μ, ah, dx, dy, S, rx, ry, hp⟩ => ?_
  unfold cEq at hp
  split at hp
  · rw [d_int rx, d_int ry]; exact .inl (.inl (rEq_scal rfl (by simp) hp S))
  · rw [d_str rx, d_str ry]; exact .inl (.inl (rEq_scal rfl (by simp) hp S))
  · rw [d_bl rx, d_bl ry]; exact .inl (.inl (rEq_scal rfl (by simp) hp S))
  · split at hp
    · rename_i b e
      exact .inl (.inr ⟨μ, ah, dx, dy, b, S, rx, ry, e, hp.ok1 S rfl⟩)
    · split at hp
      · rename_i b e
        exact .inr ⟨μ, ah, dx, dy, b, S, rx, ry, e, hp.ok1 S rfl⟩
      · exact hp.elim
theorem od_ne (hr : Rm k X.A) : OpD X RBV (compareOp .NotEq) cNe := fun Wx => by
  refine OpR.imp ((op_ne.or (op_neS hr.u64)).or (op_neLen hr.u64)) fun x y H Q ⟨μ, ah, dx, dy, S, rx, ry, hp⟩ => ?_
  unfold cNe cEq at hp
  split at hp
  · rw [d_int rx, d_int ry]; exact .inl (.inl ⟨rfl, Post.ok1 (R := RBV) hp S (by show _ = _; simp)⟩)
  · rw [d_str rx, d_str ry]; exact .inl (.inl ⟨rfl, Post.ok1 (R := RBV) hp S (by show _ = _; simp)⟩)
  · rw [d_bl rx, d_bl ry]; exact .inl (.inl ⟨rfl, Post.ok1 (R := RBV) hp S (by show _ = _; simp)⟩)
  · split at hp
    · rename_i b e
      exact .inl (.inr ⟨μ, ah, dx, dy, b, S, rx, ry, e, Post.ok1 (R := RBV) hp S rfl⟩)
    · split at hp
      · rename_i b e
        exact .inr ⟨μ, ah, dx, dy, b, S, rx, ry, e, Post.ok1 (R := RBV) hp S rfl⟩
      · exact hp.elim

/-! ### order -/
def cLt : D → D → AH → Res Bool
  | .int i, .int j, ah => .ok (decide (i < j)) ah
  | .str a, .str b, ah => .ok (decide (a.cps.toList < b.cps.toList)) ah
  | _, _, _ => .stuck
def cLe : D → D → AH → Res Bool
  | .int i, .int j, ah => .ok (decide (i ≤ j)) ah
  | _, _, _ => .stuck
def cGt : D → D → AH → Res Bool
  | .int i, .int j, ah => .ok (decide (j < i)) ah
  | _, _, _ => .stuck
def cGe : D → D → AH → Res Bool
  | .int i, .int j, ah => .ok (decide (j ≤ i)) ah
  | _, _, _ => .stuck
theorem od_lt : OpD X RBV (compareOp .Lt) cLt := fun Wx => by
  refine OpR.imp (op_lt.or op_lt_str) fun x y H Q ⟨μ, ah, dx, dy, S, rx, ry, hp⟩ => ?_
  unfold cLt at hp
  split at hp
  · rw [d_int rx, d_int ry]; exact .inl ⟨_, _, rfl, rfl, hp.ok1 S rfl⟩
  · rw [d_str rx, d_str ry]; exact .inr ⟨_, _, rfl, rfl, hp.ok1 S rfl⟩
  · exact hp.elim
theorem od_le : OpD X RBV (compareOp .LtE) cLe := fun Wx => by
  refine OpR.imp op_le fun x y H Q ⟨μ, ah, dx, dy, S, rx, ry, hp⟩ => ?_
  unfold cLe at hp
  split at hp
  · rw [d_int rx, d_int ry]; exact ⟨_, _, rfl, rfl, hp.ok1 S rfl⟩
  · exact hp.elim
theorem od_gt : OpD X RBV (compareOp .Gt) cGt := fun Wx => by
  refine OpR.imp op_gt fun x y H Q ⟨μ, ah, dx, dy, S, rx, ry, hp⟩ => ?_
  unfold cGt at hp
  split at hp
  · rw [d_int rx, d_int ry]; exact ⟨_, _, rfl, rfl, hp.ok1 S rfl⟩
  · exact hp.elim
theorem od_ge : OpD X RBV (compareOp .GtE) cGe := fun Wx => by
  refine OpR.imp op_ge fun x y H Q ⟨μ, ah, dx, dy, S, rx, ry, hp⟩ => ?_
  unfold cGe at hp
  split at hp
  · rw [d_int rx, d_int ry]; exact ⟨_, _, rfl, rfl, hp.ok1 S rfl⟩
  · exact hp.elim

/-! ### in -/
def strIn (x y : Str) : Bool := !(Builtin.Str.occurrences y x 0 y.length 1).isEmpty
def dKey : D → Option Key
  | .int i => some (.inl i)
  | .str x => some (.inr x)
  | _ => none
def inData (ah : AH) (x : D) (ds : List D) : Option Bool := match pd ah x, optAll (toP ah 62) ds with
  | some p, some ps => if SeqAt.shaped p = true ∧ PyData.canLayAll0 ps = true then some (ps.any fun z => PyData.eqv z p) else none
  | _, _ => none
def cIn : D → D → AH → Res Bool
  | .str a, .str b, ah => .ok (strIn a b) ah
  | x, .tup ds, ah => match inData ah x ds with
    | some b => .ok b ah
    | none => .stuck
  | x, .ref n, ah => match ah[n]? with
    | some (.dK kvs) => match dKey x with
      | some k => .ok (kvs.any fun kv => decide (kv.1 = k)) ah
      | none => .stuck
    | some (.lst ds) => match inData ah x ds with
      | some b => .ok b ah
      | none => .stuck
    | _ => .stuck
  | _, _, _ => .stuck
def cNotIn (x y : D) (ah : AH) : Res Bool := (cIn x y ah).bind fun b ah => .ok (!b) ah
/-- what in asks, by data -/
def inAsk (neg : Bool) (K : PySem.W.Frag) : R2 := fun x y H Q => ∃ μ ah dx dy ds b, Sim K μ H ah ∧ Rep K μ H dx x ∧ Rep K μ H dy y ∧ (dy = .tup ds ∨ ∃ n, dy = .ref n ∧ ah[n]? = some (.lst ds)) ∧ inData ah dx ds = some b ∧ Q (.bl (if neg then !b else b)) H
theorem inData_sr {pins : List (Addr × Obj)} {σ : L2.St} {H : Hp} {s : Shared} {μ : List Addr} {ah : AH} {dx dy : D} {ds : List D} {x y : V} {v u : Value} {b : Bool} (I : Inv X pins σ H s) (S : Sim X.K μ H ah) (r1 : Rep X.K μ H dx x) (r2 : Rep X.K μ H dy y)
    (rx : RelV x v) (ry : RelV y u) (hd : dy = .tup ds ∨ ∃ n, dy = .ref n ∧ ah[n]? = some (.lst ds)) (e : inData ah dx ds = some b) :
    ∃ p ps as bs, Reads s.heap v p as ∧ (Reads s.heap u (.tuple ps) bs ∨ Reads s.heap u (.list ps) bs) ∧ SeqAt.shaped p = true ∧ PyData.canLayAll0 ps = true ∧ b = ps.any fun z => PyData.eqv z p := by
  unfold inData at e
  split at e
  · rename_i p ps e1 e2
    split at e
    · rename_i hs
      cases e
      obtain ⟨as, q1⟩ := (Inv.sr I S deep dx x v p e1 r1 rx).reads
      rcases hd with rfl | ⟨n, rfl, en⟩
      · obtain ⟨bs, q2⟩ := (Inv.sr I S deep (.tup ds) y u (.tuple ps) (by unfold deep toP; simp only [e2, Option.map_some]) r2 ry).reads
        exact ⟨p, ps, as, bs, q1, .inl q2, hs.1, hs.2, rfl⟩
      · obtain ⟨bs, q2⟩ := (Inv.sr I S deep (.ref n) y u (.list ps) (by unfold deep toP; simp only [en, e2, Option.map_some]) r2 ry).reads
        exact ⟨p, ps, as, bs, q1, .inr q2, hs.1, hs.2, rfl⟩
    · cases e
  · cases e
theorem op_inS (hu : X.A.units + 65 < cLine) : OpR X (compareOp .In) (inAsk false X.K) := by
  intro pins s σ H x y v u Q I rx ry ⟨μ, ah, dx, dy, ds, b, S, r1, r2, hd, e, q⟩
  obtain ⟨p, ps, as, bs, q1, q2, c1, c2, rfl⟩ := inData_sr I S r1 r2 rx ry hd e
  rcases q2 with q2 | q2
  · exact SeqAt.in_tuple_reads q2 q1 c2 (SeqAt.canLay_of_shaped c1) (room_in_shaped c1 hu) ⟨.bl _, H, I, rfl, q⟩
  · exact SeqAt.in_list_reads q2 q1 c2 (SeqAt.canLay_of_shaped c1) (room_in_shaped c1 hu) ⟨.bl _, H, I, rfl, q⟩
theorem op_notInS (hu : X.A.units + 65 < cLine) : OpR X (compareOp .NotIn) (inAsk true X.K) := by
  intro pins s σ H x y v u Q I rx ry ⟨μ, ah, dx, dy, ds, b, S, r1, r2, hd, e, q⟩
  obtain ⟨p, ps, as, bs, q1, q2, c1, c2, rfl⟩ := inData_sr I S r1 r2 rx ry hd e
  rcases q2 with q2 | q2
  · exact SeqAt.notIn_tuple_reads q2 q1 c2 (SeqAt.canLay_of_shaped c1) (room_in_shaped c1 hu) ⟨.bl _, H, I, rfl, q⟩
  · exact SeqAt.notIn_list_reads q2 q1 c2 (SeqAt.canLay_of_shaped c1) (room_in_shaped c1 hu) ⟨.bl _, H, I, rfl, q⟩
theorem dKey_v {K : PySem.W.Frag} {μ : List Addr} {H : Hp} {d : D} {v : V} {k : Key} (h : dKey d = some k) (r : Rep K μ H d v) : v = kV k := by
  cases d <;> simp only [dKey, Option.some.injEq] at h <;> first | (subst h; first | exact d_int r | exact d_str r) | cases h
theorem dK_any {kvs : List (Key × D)} {kws : List (Key × V)} (h : kvs.map (·.1) = kws.map (·.1)) (k : Key) : (kvs.any fun kv => decide (kv.1 = k)) = (valV kws k).isSome := by
  rw [← valV_any]
  have e1 : (kvs.any fun kv => decide (kv.1 = k)) = (kvs.map (·.1)).any fun x => decide (x = k) := by rw [List.any_map]; rfl
  have e2 : (kws.any fun kv => decide (kv.1 = k)) = (kws.map (·.1)).any fun x => decide (x = k) := by rw [List.any_map]; rfl
  rw [e1, e2, h]
theorem op_inDict (hu : X.A.units + 1 < cLine) : OpR X (compareOp .In) (fun x y H Q => ∃ a kvs k, y = .ref a ∧ H a = some (.dK kvs) ∧ x = kV k ∧ Q (.bl (valV kvs k).isSome) H) := by
  intro pins s σ H x y v u Q I rx ry hx
  obtain ⟨a, kvs, k, rfl, e, rfl, q⟩ := hx
  cases ry
  exact d_in hu I (DGet.k e) rx fun s' I' => ⟨.bl _, H, I', rfl, q⟩
theorem op_notInDict (hu : X.A.units + 1 < cLine) : OpR X (compareOp .NotIn) (fun x y H Q => ∃ a kvs k, y = .ref a ∧ H a = some (.dK kvs) ∧ x = kV k ∧ Q (.bl (!(valV kvs k).isSome)) H) := by
  intro pins s σ H x y v u Q I rx ry hx
  obtain ⟨a, kvs, k, rfl, e, rfl, q⟩ := hx
  cases ry
  exact d_notIn hu I (DGet.k e) rx fun s' I' => ⟨.bl _, H, I', rfl, q⟩
theorem od_in (hr : Rm k X.A) : OpD X RBV (compareOp .In) cIn := fun Wx => by
  refine OpR.imp (op_in_str.or ((op_inS hr.u65).or (op_inDict hr.u1))) fun x y H Q ⟨μ, ah, dx, dy, S, rx, ry, hp⟩ => ?_
  unfold cIn at hp
  split at hp
  · rw [d_str rx, d_str ry]; exact .inl ⟨_, _, rfl, rfl, hp.ok1 S rfl⟩
  · split at hp
    · rename_i b e
      exact .inr (.inl ⟨μ, ah, dx, _, _, b, S, rx, ry, .inl rfl, e, hp.ok1 S rfl⟩)
    · exact hp.elim
  · split at hp
    · rename_i kvs e
      split at hp
      · rename_i kk ek
        obtain ⟨a, ea, rfl⟩ := d_ref ry
        obtain ⟨kws, e0, e1, _⟩ := S.ok _ a _ ea e
        refine .inr (.inr ⟨a, kws, kk, rfl, e0, dKey_v ek rx, hp.ok1 S ?_⟩)
        rw [dK_any e1]; rfl
      · exact hp.elim
    · rename_i ds e
      split at hp
      · rename_i b e'
        exact .inr (.inl ⟨μ, ah, dx, _, _, b, S, rx, ry, .inr ⟨_, rfl, e⟩, e', hp.ok1 S rfl⟩)
      · exact hp.elim
    · exact hp.elim
  · exact hp.elim
theorem od_notIn (hr : Rm k X.A) : OpD X RBV (compareOp .NotIn) cNotIn := fun Wx => by
  refine OpR.imp (op_notIn_str.or ((op_notInS hr.u65).or (op_notInDict hr.u1))) fun x y H Q ⟨μ, ah, dx, dy, S, rx, ry, hp⟩ => ?_
  unfold cNotIn cIn at hp
  split at hp
  · rw [d_str rx, d_str ry]; exact .inl ⟨_, _, rfl, rfl, Post.ok1 (R := RBV) hp S rfl⟩
  · split at hp
    · rename_i b e
      exact .inr (.inl ⟨μ, ah, dx, _, _, b, S, rx, ry, .inl rfl, e, Post.ok1 (R := RBV) hp S rfl⟩)
    · exact hp.elim
  · split at hp
    · rename_i kvs e
      split at hp
      · rename_i kk ek
        obtain ⟨a, ea, rfl⟩ := d_ref ry
        obtain ⟨kws, e0, e1, _⟩ := S.ok _ a _ ea e
        refine .inr (.inr ⟨a, kws, kk, rfl, e0, dKey_v ek rx, Post.ok1 (R := RBV) hp S ?_⟩)
        show _ = _
        rw [dK_any e1]
      · exact hp.elim
    · rename_i ds e
      split at hp
      · rename_i b e'
        exact .inr (.inl ⟨μ, ah, dx, _, _, b, S, rx, ry, .inr ⟨_, rfl, e⟩, e', Post.ok1 (R := RBV) hp S rfl⟩)
      · exact hp.elim
    · exact hp.elim
  · exact hp.elim

/-! ### is -/
def D.isNon : D → Bool
  | .non => true
  | .cst w => decide (w = .non)
  | _ => false
def cIs : D → D → AH → Res Bool
  | .bl a, .bl b, ah => .ok (decide (a = b)) ah
  | x, .non, ah => .ok x.isNon ah
  | _, _, _ => .stuck
def cIsNot (x y : D) (ah : AH) : Res Bool := (cIs x y ah).bind fun b ah => .ok (!b) ah
theorem non_iff {K : PySem.W.Frag} {μ : List Addr} {H : Hp} {d : D} {v : V} (r : Rep K μ H d v) : decide (v = .non) = d.isNon := by
  cases d with
  | non => rw [d_non r]; rfl
  | bl b => rw [d_bl r]; rfl
  | int b => rw [d_int r]; rfl
  | str b => rw [d_str r]; rfl
  | tup ds => obtain ⟨a, vs, rfl, _⟩ := d_tup r; rfl
  | ref n => obtain ⟨a, _, rfl⟩ := d_ref r; rfl
  | cst w =>
    have e : v = w := by simpa only [Rep] using r
    rw [e]; rfl
theorem od_is : OpD X RBV (compareOp .Is) cIs := fun Wx => by
  refine OpR.imp (op_isBl.or op_isN) fun x y H Q ⟨μ, ah, dx, dy, S, rx, ry, hp⟩ => ?_
  unfold cIs at hp
  split at hp
  · rw [d_bl rx, d_bl ry]; exact .inl ⟨_, _, rfl, rfl, hp.ok1 S rfl⟩
  · rw [d_non ry]; exact .inr ⟨rfl, hp.ok1 S (by show _ = _; rw [non_iff rx])⟩
  · exact hp.elim
theorem od_isNot : OpD X RBV (compareOp .IsNot) cIsNot := fun Wx => by
  refine OpR.imp (op_notBl.or op_notN) fun x y H Q ⟨μ, ah, dx, dy, S, rx, ry, hp⟩ => ?_
  unfold cIsNot cIs at hp
  split at hp
  · rw [d_bl rx, d_bl ry]; exact .inl ⟨_, _, rfl, rfl, Post.ok1 (R := RBV) hp S rfl⟩
  · rw [d_non ry]; exact .inr ⟨rfl, Post.ok1 (R := RBV) hp S (by show _ = _; rw [non_iff rx])⟩
  · exact hp.elim

/-! ### truth -/
def truth (d : D) (ah : AH) : Res Bool := match d with
  | .non => .ok false ah
  | .bl b => .ok b ah
  | .int i => .ok (i != 0) ah
  | .str x => if x.length ≤ line then .ok ((x.length : Int) != 0) ah else .stuck
  | .tup ds => .ok (!ds.isEmpty) ah
  | .ref n => match ah[n]? with
    | some (.lst ds) => .ok (!ds.isEmpty) ah
    | some (.ro ds) => .ok (!ds.isEmpty) ah
    | some (.dK kvs) => .ok (!kvs.isEmpty) ah
    | _ => .stuck
  | .cst _ => .stuck
theorem isEmpty_len {α β : Type} {a : List α} {b : List β} (h : a.length = b.length) : a.isEmpty = b.isEmpty := by
  cases a <;> cases b <;> simp_all
theorem truth_v {K : PySem.W.Frag} {Wx : Value → Option Addr → Hp → Prop} {μ : List Addr} {H : Hp} {Q : Bool → Hp → Prop} {d : D} {v : V} {ah : AH} (S : Sim K μ H ah) (r : Rep K μ H d v) (hp : Post K RB Wx μ H Q (truth d ah)) : ∃ k, TruV K v H k ∧ Q k H := by
  cases d with
  | non => rw [d_non r]; exact ⟨_, rfl, hp.ok1 S rfl⟩
  | bl b => rw [d_bl r]; exact ⟨_, rfl, hp.ok1 S rfl⟩
  | int i => rw [d_int r]; exact ⟨_, rfl, hp.ok1 S rfl⟩
  | str x =>
    rw [d_str r]
    unfold truth at hp
    dsimp only at hp
    split at hp
    · rename_i hl
      exact ⟨_, ⟨line_le hl, rfl⟩, hp.ok1 S rfl⟩
    · exact hp.elim
  | tup ds =>
    obtain ⟨a, vs, rfl, q, r2⟩ := d_tup r
    exact ⟨_, .inr (.inl ⟨vs, q, by rw [isEmpty_len r2.length]⟩), hp.ok1 S rfl⟩
  | ref n =>
    obtain ⟨a, ea, rfl⟩ := d_ref r
    unfold truth at hp
    dsimp only at hp
    split at hp
    · rename_i ds e
      obtain ⟨b, vs, eb, q, r2⟩ := S.list (show listAt ah n = some ds by unfold listAt; rw [e])
      rw [ea] at eb; cases eb
      exact ⟨_, .inl ⟨vs, q, by rw [isEmpty_len r2.length]⟩, hp.ok1 S rfl⟩
    · rename_i ds e
      obtain ⟨b, vs, eb, q, r2⟩ := S.list (show listAt ah n = some ds by unfold listAt; rw [e])
      rw [ea] at eb; cases eb
      exact ⟨_, .inl ⟨vs, q, by rw [isEmpty_len r2.length]⟩, hp.ok1 S rfl⟩
    · rename_i kvs e
      obtain ⟨kws, e0, e1, _⟩ := S.ok n a _ ea e
      exact ⟨_, .inr (.inr ⟨kws, e0, by rw [isEmpty_len (by simpa using congrArg List.length e1)]⟩), hp.ok1 S rfl⟩
    · exact hp.elim
  | cst w => exact hp.elim
/-- an expression's truth as a test -/
theorem pb_val {e : Expr} {m : EM D} (h : PD X W e m) (he : ∀ whole, isTrue e X.env whole = (do let v ← whole; standAt e.pos; holding [v] (truthy v)) := by intro _; rfl) : PB X W e (e1 m truth) := by
  refine PT.weak (pt_truth h he) fun σ H Q ⟨μ, env, ah, he, hs, hp⟩ => ?_
  exact ⟨μ, env, ah, he, hs, hp.bind fun d ah1 μ1 x H1 e1 s1 r1 p1 => truth_v s1 r1 p1⟩

/-! ### and, or, not -/
def bAnd (a b : EM Bool) : EM Bool := fun env ah => (a env ah).bind fun x ah1 => if x = true then b env ah1 else .ok false ah1
def bOr (a b : EM Bool) : EM Bool := fun env ah => (a env ah).bind fun x ah1 => if x = true then .ok true ah1 else b env ah1
def bNot (a : EM Bool) : EM Bool := fun env ah => (a env ah).bind fun x ah1 => .ok (!x) ah1
variable {a b : Expr} {rest : List Expr} {ma mb : EM Bool} {pos : Pos}
theorem pbw_and1 (ha : PB X W a ma) : PBw X W (.BoolOp .And [a] pos) ma := pw_and1 ha
theorem pbw_or1 (ha : PB X W a ma) : PBw X W (.BoolOp .Or [a] pos) ma := pw_or1 ha
theorem pbw_and (ha : PB X W a ma) (hb : PBw X W (.BoolOp .And (b :: rest) pos) mb) : PBw X W (.BoolOp .And (a :: b :: rest) pos) (bAnd ma mb) := by
  refine PW.weak (pw_and ha hb) fun σ H Q ⟨μ, env, ah, he, hs, hp⟩ => ?_
  refine ⟨μ, env, ah, he, hs, hp.bind fun d ah1 μ1 x H1 e1 s1 r1 p1 => ?_⟩
  cases (show d = x from r1)
  cases d with
  | true => exact tG_next he e1 s1 p1
  | false => exact Post.ok1 (R := RB) p1 s1 rfl
theorem pbw_or (ha : PB X W a ma) (hb : PBw X W (.BoolOp .Or (b :: rest) pos) mb) : PBw X W (.BoolOp .Or (a :: b :: rest) pos) (bOr ma mb) := by
  refine PW.weak (pw_or ha hb) fun σ H Q ⟨μ, env, ah, he, hs, hp⟩ => ?_
  refine ⟨μ, env, ah, he, hs, hp.bind fun d ah1 μ1 x H1 e1 s1 r1 p1 => ?_⟩
  cases (show d = x from r1)
  cases d with
  | true => exact Post.ok1 (R := RB) p1 s1 rfl
  | false => exact tG_next he e1 s1 p1
theorem pbw {e : Expr} {m : EM Bool} (h : PBw X W e m) : PB X W e m := PW.pt h
theorem pb_not (ha : PB X W a ma) : PB X W (.UnaryOp .Not a pos) (bNot ma) := by
  refine PT.weak (pt_not ha) fun σ H Q ⟨μ, env, ah, he, hs, hp⟩ => ?_
  refine ⟨μ, env, ah, he, hs, hp.bind fun d ah1 μ1 x H1 e1 s1 r1 p1 => ?_⟩
  cases (show d = x from r1)
  exact Post.ok1 (R := RB) p1 s1 rfl
/-- .. as values -/
def eAnd (a : EM D) (b : EM D) : EM D := fun env ah => (a env ah).bind fun x ah1 => (truth x ah1).bind fun k ah2 => if k = true then b env ah2 else .ok x ah2
def eOr (a : EM D) (b : EM D) : EM D := fun env ah => (a env ah).bind fun x ah1 => (truth x ah1).bind fun k ah2 => if k = true then .ok x ah2 else b env ah2
def eNot (a : EM D) : EM D := fun env ah => (a env ah).bind fun x ah1 => (truth x ah1).bind fun k ah2 => .ok (.bl (!k)) ah2
variable {na nb : EM D}
/-- truth's own change of the state: none -/
theorem truth_same {d : D} {ah : AH} : (∃ k, truth d ah = .ok k ah) ∨ truth d ah = .stuck := by
  unfold truth
  split <;> first | exact .inl ⟨_, rfl⟩ | exact .inr rfl | skip
  · split <;> first | exact .inl ⟨_, rfl⟩ | exact .inr rfl
  · split <;> first | exact .inl ⟨_, rfl⟩ | exact .inr rfl
theorem truth_tru {K : PySem.W.Frag} {μ : List Addr} {H : Hp} {d : D} {v : V} {ah : AH} {k : Bool} (S : Sim K μ H ah) (r : Rep K μ H d v) (e : truth d ah = .ok k ah) : TruV K v H k := by
  have h : Post K RB (fun _ _ _ => False) μ H (fun c H' => c = k ∧ True) (truth d ah) := by
    rw [e]
    exact fun μ' x H' _ _ r => ⟨(show k = x from r).symm, trivial⟩
  obtain ⟨c, t, q, _⟩ := truth_v S r h
  rw [← q]; exact t
theorem pd_one {op} {m : EM D} (h : PD X W a m) : PD X W (.BoolOp op [a] pos) m := pe_one h
theorem pd_and (ha : PD X W a na) (hb : PD X W (.BoolOp .And (b :: rest) pos) nb) : PD X W (.BoolOp .And (a :: b :: rest) pos) (eAnd na nb) := by
  refine PE.weak (pe_andT ha hb) fun σ H Q ⟨μ, env, ah, he, hs, hp⟩ => ?_
  refine ⟨μ, env, ah, he, hs, hp.bind fun d ah1 μ1 x H1 e1 s1 r1 p1 => ?_⟩
  rcases truth_same (d := d) (ah := ah1) with ⟨k, e⟩ | e
  · rw [e] at p1
    refine ⟨k, truth_tru s1 r1 e, ?_⟩
    cases k with
    | true => exact tG_next he e1 s1 p1
    | false => exact Post.ok1 (R := RD X.K) p1 s1 r1
  · rw [e] at p1; exact p1.elim
theorem pd_or (ha : PD X W a na) (hb : PD X W (.BoolOp .Or (b :: rest) pos) nb) : PD X W (.BoolOp .Or (a :: b :: rest) pos) (eOr na nb) := by
  refine PE.weak (pe_orT ha hb) fun σ H Q ⟨μ, env, ah, he, hs, hp⟩ => ?_
  refine ⟨μ, env, ah, he, hs, hp.bind fun d ah1 μ1 x H1 e1 s1 r1 p1 => ?_⟩
  rcases truth_same (d := d) (ah := ah1) with ⟨k, e⟩ | e
  · rw [e] at p1
    refine ⟨k, truth_tru s1 r1 e, ?_⟩
    cases k with
    | true => exact Post.ok1 (R := RD X.K) p1 s1 r1
    | false => exact tG_next he e1 s1 p1
  · rw [e] at p1; exact p1.elim
theorem pd_not (ha : PD X W a na) : PD X W (.UnaryOp .Not a pos) (eNot na) := by
  refine PE.weak (pe_notT ha) fun σ H Q ⟨μ, env, ah, he, hs, hp⟩ => ?_
  refine ⟨μ, env, ah, he, hs, hp.bind fun d ah1 μ1 x H1 e1 s1 r1 p1 => ?_⟩
  rcases truth_same (d := d) (ah := ah1) with ⟨k, e⟩ | e
  · rw [e] at p1
    exact ⟨k, truth_tru s1 r1 e, Post.ok1 (R := RD X.K) p1 s1 r_bl⟩
  · rw [e] at p1; exact p1.elim
/-- a if t else b -/
def eIf {α : Type} (c : EM Bool) (a b : EM α) : EM α := fun env ah => (c env ah).bind fun x ah1 => if x = true then a env ah1 else b env ah1
theorem pd_if {c : Expr} {mc : EM Bool} (hc : PB X W c mc) (ha : PD X W a na) (hb : PD X W b nb) : PD X W (.IfExp c a b pos) (eIf mc na nb) := by
  refine PE.weak (pe_ifExp hc ha hb) fun σ H Q ⟨μ, env, ah, he, hs, hp⟩ => ?_
  refine ⟨μ, env, ah, he, hs, hp.bind fun d ah1 μ1 x H1 e1 s1 r1 p1 => ?_⟩
  cases (show d = x from r1)
  cases d with
  | true => exact tG_next he e1 s1 p1
  | false => exact tG_next he e1 s1 p1
/-- -i -/
def oNeg : D → AH → Res D
  | .int i, ah => .ok (.int (-i)) ah
  | _, _ => .stuck
theorem pd_neg (ha : PD X W a na) : PD X W (.UnaryOp .USub a pos) (e1 na oNeg) := by
  refine PE.weak (pe_un un_neg ha) fun σ H Q ⟨μ, env, ah, he, hs, hp⟩ => ?_
  refine ⟨μ, env, ah, he, hs, hp.bind fun d ah1 μ1 x H1 e1 s1 r1 p1 => ?_⟩
  cases d with
  | int i =>
    have q : Rep X.K μ1 H1 (.int i) x := r1
    rw [d_int q]; exact ⟨i, rfl, Post.ok1 (R := RD X.K) p1 s1 r_int⟩
  | _ => exact p1.elim

/-! ### arguments, displays -/
def aNil : EM (List D) := fun _ ah => .ok [] ah
def aCons (m : EM D) (r : EM (List D)) : EM (List D) := fun env ah => (m env ah).bind fun x ah1 => (r env ah1).bind fun xs ah2 => .ok (x :: xs) ah2
variable {e : Expr} {es : List Expr} {me : EM D} {mes : EM (List D)}
theorem pas_nil : PAs X W [] aNil := PA.weak pa_nil fun σ H Q ⟨μ, env, ah, he, hs, hp⟩ => Post.ok1 (R := RA X.K) hp hs (show Reps X.K μ H [] [] from Reps.nil)
theorem Post.cons {K : PySem.W.Frag} {Wx : Value → Option Addr → Hp → Prop} {μ : List Addr} {H : Hp} {x : V} {d : D} {Q : List V → Hp → Prop} {r : Res (List D)} (rx : Rep K μ H d x) (h : Post K (RA K) Wx μ H Q (r.bind fun xs ah2 => .ok (d :: xs) ah2)) : Post K (RA K) Wx μ H (fun xs H' => Q (x :: xs) H') r := by
  cases r with
  | ok ds ah => exact fun μ' xs H' e s rr => h μ' (x :: xs) H' e s (Reps.cons (rx.ext e) rr)
  | exn c fs ah => exact h
  | stuck => exact h
theorem pas_cons (ha : PD X W e me) (hr : PAs X W es mes) (hs : starEach (e :: es) X.env = (false, eval e X.env) :: starEach es X.env := by rfl) : PAs X W (e :: es) (aCons me mes) := by
  refine PA.weak (pa_cons ha hr hs) fun σ H Q ⟨μ, env, ah, he, hs, hp⟩ => ?_
  refine ⟨μ, env, ah, he, hs, hp.bind fun d ah1 μ1 x H1 e1 s1 r1 p1 => ?_⟩
  exact tG_next he e1 s1 (Post.cons r1 p1)
def eTup (m : EM (List D)) : EM D := e1 m fun ds ah => if ds.length ≤ line then .ok (.tup ds) ah else .stuck
theorem pd_tup {x1} (h : PAs X W es mes) : PD X W (.Tuple es x1 pos) (eTup mes) := by
  refine PE.weak (pe_tup h) fun σ H Q ⟨μ, env, ah, he, hs, hp⟩ => ?_
  refine ⟨μ, env, ah, he, hs, hp.bind fun ds ah1 μ1 vs H1 e1 s1 r1 p1 => ?_⟩
  have r : Reps X.K μ1 H1 ds vs := r1
  dsimp only at p1
  split at p1
  · rename_i hl
    exact ⟨line_le (by rw [← r.length]; exact hl), fun p hp => p1.newT s1 r hp⟩
  · exact p1.elim
def lLst (m : EM (List D)) : EM (List D) := e1 m fun ds ah => if ds.length ≤ line then .ok ds ah else .stuck
end
end HA

/-! HA6: lists and sequences by their items; subscripts, slices; built-ins by name; methods. -/
namespace HA
open PySem PySem.Spec PyProof.Rows L2

theorem Sim.adopt {K : PySem.W.Frag} {μ : List Addr} {H : Hp} {ah : AH} (S : Sim K μ H ah) {a : Addr} {o : AObj} (hr : o.isRo = false) (ha : a ∉ μ.tail) (h : OOk K (μ ++ [a]) H a o) : Sim K (μ ++ [a]) H (ah ++ [o]) := by
  have key : ∀ (n : Nat) (b : Addr) (q : AObj), (μ ++ [a])[n]? = some b → (ah ++ [o])[n]? = some q → (μ[n]? = some b ∧ ah[n]? = some q) ∨ (n = ah.length ∧ b = a ∧ q = o) := fun n b q e1 e2 => by
    by_cases hn : n < ah.length
    · rw [List.getElem?_append_left (by rw [S.len]; exact hn)] at e1
      rw [List.getElem?_append_left hn] at e2
      exact .inl ⟨e1, e2⟩
    · have hn' : n < (ah ++ [o]).length := (List.getElem?_eq_some_iff.mp e2).1
      have : n = ah.length := by simp at hn'; omega
      subst this
      rw [List.getElem?_append_right (by rw [S.len]; omega)] at e1
      rw [List.getElem?_append_right (Nat.le_refl _)] at e2
      rw [S.len] at e1
      simp at e1 e2
      exact .inr ⟨rfl, e1.symm, e2.symm⟩
  have tl : ∀ (n : Nat) (q : AObj), μ[n]? = some a → ah[n]? = some q → q.isRo = false → False := fun n q e1 e2 r => by
    have hn : n ≠ 0 := fun z => by
      have := (S.ro0 n q e2).mpr z
      rw [r] at this; cases this
    obtain ⟨k, rfl⟩ : ∃ k, n = k + 1 := ⟨n - 1, by omega⟩
    exact ha (List.mem_of_getElem? (i := k) (by rw [List.getElem?_tail]; exact e1))
  refine ⟨by simp [S.len], fun n m b q q' e1 e2 e3 e4 r1 r2 => ?_, fun n b q e1 e2 => ?_, by simp, fun n q e => ?_⟩
  · rcases key n b q e1 e3 with ⟨x1, x2⟩ | ⟨x1, x2, x3⟩
    · rcases key m b q' e2 e4 with ⟨y1, y2⟩ | ⟨y1, y2, y3⟩
      · exact S.nd n m b q q' x1 y1 x2 y2 r1 r2
      · subst y2; exact (tl n q x1 x2 r1).elim
    · rcases key m b q' e2 e4 with ⟨y1, y2⟩ | ⟨y1, y2, y3⟩
      · subst x2; exact (tl m q' y1 y2 r2).elim
      · rw [x1, y1]
  · rcases key n b q e1 e2 with ⟨x1, x2⟩ | ⟨x1, x2, x3⟩
    · exact (S.ok n b q x1 x2).mono (List.prefix_append _ _) TExt.refl (fun _ => rfl) fun _ _ z => z
    · rw [x2, x3]; exact h
  · by_cases hn : n < ah.length
    · rw [List.getElem?_append_left hn] at e
      exact S.ro0 n q e
    · have hn' : n < (ah ++ [o]).length := (List.getElem?_eq_some_iff.mp e).1
      have : n = ah.length := by simp at hn'; omega
      subst this
      rw [List.getElem?_append_right (Nat.le_refl _)] at e
      simp at e
      subst e
      have := S.pos
      constructor
      · intro z; rw [hr] at z; cases z
      · intro z; omega
/-- something new of the beginning becomes ours -/
theorem Ext.adopt {K : PySem.W.Frag} {μ μ1 : List Addr} {H H1 : Hp} {a : Addr} (e : Ext K μ H μ1 H1) (h0 : H a = none) (hp : 0 < μ1.length) : Ext K μ H (μ1 ++ [a]) H1 :=
  ⟨e.pre.trans (List.prefix_append _ _), e.tup, fun b hb => by
    rw [List.tail_append_of_ne_nil (by intro z; rw [z] at hp; exact absurd hp (by decide))] at hb
    rcases List.mem_append.mp hb with z | z
    · exact e.new b z
    · simp at z; rw [z]; exact .inr h0, e.keep, e.there⟩
theorem Sim.mpos {K : PySem.W.Frag} {μ : List Addr} {H : Hp} {ah : AH} (S : Sim K μ H ah) : 0 < μ.length := by rw [S.len]; exact S.pos

/-- lists alone, by items -/
def RM (K : PySem.W.Frag) : Rel (List D) V := ⟨fun _ μ H ds v => ∃ a vs, v = .ref a ∧ SqL K H a vs ∧ Reps K μ H ds vs, fun _ h => h⟩
def PM (X : Cx) (W : WX) (e : Expr) (m : EM (List D)) : Prop := PE X e (tG X.K (RM X.K) W m)
section
variable {X : Cx} {W : WX} {k : Nat} {e : Expr} {es : List Expr} {m : EM D} {ml : EM (List D)} {pos : Pos}
/-- a finer answer -/
theorem tG_rel {β γ : Type} {K : PySem.W.Frag} {R R' : Rel β γ} {mm : EM β} {σ : L2.St} {H : Hp} {Q : γ → Hp → Prop} (h : tG K R' W mm σ H Q) (k : ∀ H₀ μ H b c, R.r H₀ μ H b c → R'.r H₀ μ H b c) : tG K R W mm σ H Q := by
  obtain ⟨μ, env, ah, he, hs, hp⟩ := h
  refine ⟨μ, env, ah, he, hs, ?_⟩
  cases q : mm env ah with
  | ok d ah' => rw [q] at hp; exact fun μ' x H' e s r => hp μ' x H' e s (k _ _ _ _ _ r)
  | exn c fs ah' => rw [q] at hp; exact hp
  | stuck => rw [q] at hp; exact hp
theorem pm_l (h : PL X W e ml) : PM X W e ml := PE.weak h fun σ H Q q => tG_rel q fun _ _ _ _ _ ⟨a, vs, e, _, z, _, r⟩ => ⟨a, vs, e, SqL.of z, r⟩
theorem pq_m (h : PM X W e ml) : PQ X W e ml := PE.weak h fun σ H Q q => tG_rel q fun _ _ _ _ _ ⟨a, vs, e, z, r⟩ => ⟨a, vs, e, .inl z, r⟩
theorem pq_l (h : PL X W e ml) : PQ X W e ml := pq_m (pm_l h)
def listOf (d : D) (ah : AH) : Res (List D) := match d with
  | .ref n => match listAt ah n with
    | some ds => .ok ds ah
    | none => .stuck
  | _ => .stuck
def seqOf (d : D) (ah : AH) : Res (List D) := match d with
  | .tup ds => .ok ds ah
  | .ref n => match listAt ah n with
    | some ds => .ok ds ah
    | none => .stuck
  | _ => .stuck
theorem pm_d (h : PD X W e m) : PM X W e (e1 m listOf) := by
  refine PE.weak h fun σ H Q ⟨μ, env, ah, he, hs, hp⟩ => ?_
  refine ⟨μ, env, ah, he, hs, hp.bind fun d ah1 μ1 x H1 e1 s1 r1 p1 => ?_⟩
  cases d with
  | ref n =>
    obtain ⟨a, ea, rfl⟩ := d_ref (show Rep X.K μ1 H1 (.ref n) x from r1)
    unfold listOf at p1
    dsimp only at p1
    split at p1
    · rename_i ds e
      obtain ⟨b, vs, eb, q, r2⟩ := s1.list e
      rw [ea] at eb; cases eb
      exact Post.ok1 (R := RM X.K) p1 s1 ⟨a, vs, rfl, q, r2⟩
    · exact p1.elim
  | _ => exact p1.elim
theorem pq_d (h : PD X W e m) : PQ X W e (e1 m seqOf) := by
  refine PE.weak h fun σ H Q ⟨μ, env, ah, he, hs, hp⟩ => ?_
  refine ⟨μ, env, ah, he, hs, hp.bind fun d ah1 μ1 x H1 e1 s1 r1 p1 => ?_⟩
  cases d with
  | tup ds =>
    obtain ⟨a, vs, rfl, q, r2⟩ := d_tup (show Rep X.K μ1 H1 (.tup ds) x from r1)
    exact Post.ok1 (R := RQ X.K) p1 s1 ⟨a, vs, rfl, .inr q, r2⟩
  | ref n =>
    obtain ⟨a, ea, rfl⟩ := d_ref (show Rep X.K μ1 H1 (.ref n) x from r1)
    unfold seqOf at p1
    dsimp only at p1
    split at p1
    · rename_i ds e
      obtain ⟨b, vs, eb, q, r2⟩ := s1.list e
      rw [ea] at eb; cases eb
      exact Post.ok1 (R := RQ X.K) p1 s1 ⟨a, vs, rfl, .inl q, r2⟩
    · exact p1.elim
  | _ => exact p1.elim
/-- a new list becomes an object of ours -/
def eNew (m : EM (List D)) : EM D := e1 m fun ds ah => .ok (.ref ah.length) (ah ++ [.lst ds])
theorem pd_new (h : PL X W e ml) : PD X W e (eNew ml) := by
  refine PE.weak h fun σ H Q ⟨μ, env, ah, he, hs, hp⟩ => ?_
  refine ⟨μ, env, ah, he, hs, hp.bind0 fun ds ah1 μ1 x H1 e1 s1 r1 p1 => ?_⟩
  obtain ⟨a, vs, rfl, h0, ha, hm, r⟩ := r1
  refine p1 (μ1 ++ [a]) (.ref a) H1 (e1.adopt h0 s1.mpos) (s1.adopt rfl hm ⟨vs, ha, Reps.mono (List.prefix_append _ _) TExt.refl ds vs r⟩) ?_
  show Rep _ _ _ _ _
  simp only [Rep]
  exact ⟨a, by rw [← s1.len]; simp, rfl⟩
theorem pl_lst (h : PAs X W es ml) : PL X W (.List es pos) (lLst ml) := by
  refine PE.weak (pe_lst h) fun σ H Q ⟨μ, env, ah, he, hs, hp⟩ => ?_
  refine ⟨μ, env, ah, he, hs, hp.bind0 fun ds ah1 μ1 vs H1 e1 s1 r1 p1 => ?_⟩
  have r : Reps X.K μ1 H1 ds vs := r1
  dsimp only at p1
  split at p1
  · rename_i hl
    refine ⟨line_le (by rw [← r.length]; exact hl), fun p hp => ?_⟩
    exact p1 μ1 _ _ (e1.trans (Ext.other hp)) (s1.other hp) ⟨p, vs, rfl, e1.there p hp, upd_same, s1.free hp, r.ext (Ext.other hp)⟩
  · exact p1.elim

/-! ### a built-in by its name -/
def CallD (X : Cx) {γ : Type} (R : Rel γ V) (F : Value) (f : List D → AH → Res γ) : Prop := ∀ W, CallR X F (fun vs H Q => ∃ μ ah ds, Sim X.K μ H ah ∧ Reps X.K μ H ds vs ∧ Post X.K R W μ H Q (f ds ah))
theorem CallR.imp {F : Value} {r r' : List V → Hp → VK → Prop} (h : CallR X F r) (k : ∀ vs H Q, r' vs H Q → r vs H Q) : CallR X F r' := fun pins s σ H xs us Q I rv q => h pins s σ H xs us Q I rv (k xs H Q q)
theorem CallR.or {F : Value} {r r' : List V → Hp → VK → Prop} (h : CallR X F r) (h' : CallR X F r') : CallR X F (fun vs H Q => r vs H Q ∨ r' vs H Q) := fun pins s σ H xs us Q I rv q => q.elim (h pins s σ H xs us Q I rv) (h' pins s σ H xs us Q I rv)
theorem pe_callBσ {x : Str} {p : Pos} {id : String} {r : L2.St → List V → Hp → VK → Prop} {t : TA} (hc : ∀ σ, CallR X (.builtin id) (r σ)) (hg : Gl X x) (hm : X.mg x = none) (hv : bootBuiltins x = some (.builtin id)) (ha : PA X (e :: es) t) (hn : x ≠ "__name__" := by decide) (hdb : (x == ("__debug__" : Str)) = false := by decide)
    (he : starEach (e :: es) X.env = (false, eval e X.env) :: starEach es X.env := by rfl) (hpl : (backTo pos (starEach es X.env)).any (·.1) = false := by rfl) : PE X (.Call (.Name x p) (e :: es) [] pos) (fun σ H Q => tCB (r σ) t σ H Q) :=
  ⟨fun pins s σ H Q I h => (pe_callB (hc σ) hg hm hv ha hn hdb he hpl).run pins s σ H Q I h⟩
theorem pe_callTyσ {x : Str} {p : Pos} {T : String} {r : L2.St → List V → Hp → VK → Prop} {t : TA} (hc : ∀ σ, CallR X (.type T) (r σ)) (hg : Gl X x) (hm : X.mg x = none) (hv : bootBuiltins x = some (.type T)) (ha : PA X (e :: es) t) (hn : x ≠ "__name__" := by decide) (hdb : (x == ("__debug__" : Str)) = false := by decide)
    (he : starEach (e :: es) X.env = (false, eval e X.env) :: starEach es X.env := by rfl) (hpl : (backTo pos (starEach es X.env)).any (·.1) = false := by rfl) : PE X (.Call (.Name x p) (e :: es) [] pos) (fun σ H Q => tCB (r σ) t σ H Q) :=
  ⟨fun pins s σ H Q I h => (pe_callTy (hc σ) hg hm hv ha hn hdb he hpl).run pins s σ H Q I h⟩
theorem cb_step {γ : Type} {R : Rel γ V} {f : List D → AH → Res γ} {σ : L2.St} {H : Hp} {Q : VK} (h : tG X.K R W (e1 ml f) σ H Q) :
    tCB (fun vs H Q => ∃ μ ah ds, Sim X.K μ H ah ∧ Reps X.K μ H ds vs ∧ Post X.K R (fun c d H' => W c d σ H') μ H Q (f ds ah)) (tG X.K (RA X.K) W ml) σ H Q := by
  obtain ⟨μ, env, ah, he, hs, hp⟩ := h
  exact ⟨μ, env, ah, he, hs, hp.bind fun ds ah1 μ1 vs H1 e1 s1 r1 p1 => ⟨μ1, ah1, ds, s1, r1, p1⟩⟩
theorem pd_callB {x : Str} {p : Pos} {id : String} {f : List D → AH → Res D} (hc : CallD X (RD X.K) (.builtin id) f) (hg : Gl X x) (hm : X.mg x = none) (hv : bootBuiltins x = some (.builtin id)) (ha : PAs X W (e :: es) ml) (hn : x ≠ "__name__" := by decide) (hdb : (x == ("__debug__" : Str)) = false := by decide)
    (he : starEach (e :: es) X.env = (false, eval e X.env) :: starEach es X.env := by rfl) (hpl : (backTo pos (starEach es X.env)).any (·.1) = false := by rfl) : PD X W (.Call (.Name x p) (e :: es) [] pos) (e1 ml f) :=
  PE.weak (pe_callBσ (fun σ => hc _) hg hm hv ha hn hdb he hpl) fun _ _ _ h => cb_step h
theorem pd_callT {x : Str} {p : Pos} {T : String} {f : List D → AH → Res D} (hc : CallD X (RD X.K) (.type T) f) (hg : Gl X x) (hm : X.mg x = none) (hv : bootBuiltins x = some (.type T)) (ha : PAs X W (e :: es) ml) (hn : x ≠ "__name__" := by decide) (hdb : (x == ("__debug__" : Str)) = false := by decide)
    (he : starEach (e :: es) X.env = (false, eval e X.env) :: starEach es X.env := by rfl) (hpl : (backTo pos (starEach es X.env)).any (·.1) = false := by rfl) : PD X W (.Call (.Name x p) (e :: es) [] pos) (e1 ml f) :=
  PE.weak (pe_callTyσ (fun σ => hc _) hg hm hv ha hn hdb he hpl) fun _ _ _ h => cb_step h
/-- of one sequence, by its items -/
def CallS (X : Cx) {γ : Type} (Rs : Rel (List D) V) (R : Rel γ V) (F : Value) (f : List D → AH → Res γ) : Prop := ∀ W, CallR X F (fun vs H Q => ∃ μ ah ds x H₀, vs = [x] ∧ Sim X.K μ H ah ∧ Rs.r H₀ μ H ds x ∧ Post X.K R W μ H Q (f ds ah))
theorem cs_step {γ : Type} {Rs : Rel (List D) V} {R : Rel γ V} {f : List D → AH → Res γ} {σ : L2.St} {H : Hp} {Q : VK} (h : tG X.K R W (e1 ml f) σ H Q) :
    tCB (fun vs H Q => ∃ μ ah ds x H₀, vs = [x] ∧ Sim X.K μ H ah ∧ Rs.r H₀ μ H ds x ∧ Post X.K R (fun c d H' => W c d σ H') μ H Q (f ds ah)) (tCons (tG X.K Rs W ml) tNil) σ H Q := by
  obtain ⟨μ, env, ah, he, hs, hp⟩ := h
  exact ⟨μ, env, ah, he, hs, hp.bind fun ds ah1 μ1 x H1 e1 s1 r1 p1 => ⟨μ1, ah1, ds, x, H, rfl, s1, r1, p1⟩⟩
theorem pg_callSB {γ : Type} {Rs : Rel (List D) V} {R : Rel γ V} {x : Str} {p : Pos} {id : String} {f : List D → AH → Res γ} (hc : CallS X Rs R (.builtin id) f) (hg : Gl X x) (hm : X.mg x = none) (hv : bootBuiltins x = some (.builtin id)) (ha : PE X e (tG X.K Rs W ml)) (hn : x ≠ "__name__" := by decide) (hdb : (x == ("__debug__" : Str)) = false := by decide)
    (he : starEach (e :: []) X.env = (false, eval e X.env) :: starEach [] X.env := by rfl) (hpl : (backTo pos (starEach [] X.env)).any (·.1) = false := by rfl) : PE X (.Call (.Name x p) [e] [] pos) (tG X.K R W (e1 ml f)) :=
  PE.weak (pe_callBσ (fun σ => hc _) hg hm hv (pa_cons ha pa_nil he) hn hdb he hpl) fun _ _ _ h => cs_step h
theorem pg_callST {γ : Type} {Rs : Rel (List D) V} {R : Rel γ V} {x : Str} {p : Pos} {T : String} {f : List D → AH → Res γ} (hc : CallS X Rs R (.type T) f) (hg : Gl X x) (hm : X.mg x = none) (hv : bootBuiltins x = some (.type T)) (ha : PE X e (tG X.K Rs W ml)) (hn : x ≠ "__name__" := by decide) (hdb : (x == ("__debug__" : Str)) = false := by decide)
    (he : starEach (e :: []) X.env = (false, eval e X.env) :: starEach [] X.env := by rfl) (hpl : (backTo pos (starEach [] X.env)).any (·.1) = false := by rfl) : PE X (.Call (.Name x p) [e] [] pos) (tG X.K R W (e1 ml f)) :=
  PE.weak (pe_callTyσ (fun σ => hc _) hg hm hv (pa_cons ha pa_nil he) hn hdb he hpl) fun _ _ _ h => cs_step h

/-! ### len -/
def oLen (d : D) (ah : AH) : Res D := match d with
  | .str z => if z.length ≤ line then .ok (.int z.length) ah else .stuck
  | .tup ds => .ok (.int ds.length) ah
  | .ref n => match ah[n]? with
    | some (.lst ds) => .ok (.int ds.length) ah
    | some (.ro ds) => .ok (.int ds.length) ah
    | some (.dK kvs) => .ok (.int kvs.length) ah
    | _ => .stuck
  | _ => .stuck
def oLenA : List D → AH → Res D
  | [d], ah => oLen d ah
  | _, _ => .stuck
theorem reps1 {K : PySem.W.Frag} {μ : List Addr} {H : Hp} {d : D} {vs : List V} (h : Reps K μ H [d] vs) : ∃ v, vs = [v] ∧ Rep K μ H d v := by
  simp only [Reps] at h
  obtain ⟨w, ws, rfl, r, rfl⟩ := h
  exact ⟨w, rfl, r⟩
theorem reps2 {K : PySem.W.Frag} {μ : List Addr} {H : Hp} {d e : D} {vs : List V} (h : Reps K μ H [d, e] vs) : ∃ v w, vs = [v, w] ∧ Rep K μ H d v ∧ Rep K μ H e w := by
  simp only [Reps] at h
  obtain ⟨w, ws, rfl, r, u, us, rfl, r2, rfl⟩ := h
  exact ⟨w, u, rfl, r, r2⟩
theorem call_lenDict : CallR X (.builtin "len") (fun xs H Q => ∃ a kvs, xs = [.ref a] ∧ H a = some (.dK kvs) ∧ Q (.int kvs.length) H) := by
  intro pins s σ H xs us Q I rv h
  obtain ⟨a, kvs, rfl, e, q⟩ := h
  obtain ⟨u, rfl, r⟩ := vals1 rv
  cases r
  exact d_len I (.inl e) fun t s' I' => ⟨.int _, H, I', ⟨t, rfl⟩, q⟩
theorem cd_len : CallD X (RD X.K) (.builtin "len") oLenA := fun W => by
  refine CallR.imp (call_len.or call_lenDict) fun vs H Q ⟨μ, ah, ds, S, r, hp⟩ => ?_
  unfold oLenA at hp
  split at hp
  · rename_i ah' d
    obtain ⟨v, rfl, r1⟩ := reps1 r
    unfold oLen at hp
    cases d with
    | str z =>
      dsimp only at hp
      split at hp
      · rename_i hl
        rw [d_str r1]; exact .inl ⟨_, _, rfl, ⟨line_le hl, rfl⟩, Post.ok1 (R := RD X.K) hp S r_int⟩
      · exact hp.elim
    | tup xs =>
      obtain ⟨a, ws, rfl, q, r2⟩ := d_tup r1
      exact .inl ⟨_, _, rfl, .inr ⟨ws, q, r2.length⟩, Post.ok1 (R := RD X.K) hp S r_int⟩
    | ref n =>
      obtain ⟨a, ea, rfl⟩ := d_ref r1
      dsimp only at hp
      split at hp
      · rename_i xs e
        obtain ⟨b, ws, eb, q, r2⟩ := S.list (show listAt ah n = some xs by unfold listAt; rw [e])
        rw [ea] at eb; cases eb
        exact .inl ⟨_, _, rfl, .inl ⟨ws, q, r2.length⟩, Post.ok1 (R := RD X.K) hp S r_int⟩
      · rename_i xs e
        obtain ⟨b, ws, eb, q, r2⟩ := S.list (show listAt ah n = some xs by unfold listAt; rw [e])
        rw [ea] at eb; cases eb
        exact .inl ⟨_, _, rfl, .inl ⟨ws, q, r2.length⟩, Post.ok1 (R := RD X.K) hp S r_int⟩
      · rename_i kvs e
        obtain ⟨kws, e0, e1, _⟩ := S.ok n a _ ea e
        refine .inr ⟨a, kws, rfl, e0, Post.ok1 (R := RD X.K) hp S ?_⟩
        rw [show kws.length = kvs.length by simpa using (congrArg List.length e1).symm]
        exact r_int
      · exact hp.elim
    | _ => exact hp.elim
  · exact hp.elim
end
end HA

/-! HA7: isinstance, repr, str, int, sum, all, any, tuple, list; subscripts, slices. -/
namespace HA
open PySem PySem.Spec PyProof.Rows L2
section
variable {X : Cx} {W : WX} {k : Nat} {e : Expr} {es : List Expr} {m : EM D} {ml : EM (List D)} {pos : Pos}

/-! ### isinstance against the built-in types -/
def tyName (d : D) (ah : AH) : Option String := match d with
  | .non => some "NoneType"
  | .bl _ => some "bool"
  | .int _ => some "int"
  | .str _ => some "str"
  | .tup _ => some "tuple"
  | .ref n => match ah[n]? with
    | some (.lst _) => some "list"
    | some (.dK _) => some "dict"
    | some (.dT _) => some "dict"
    | _ => none
  | .cst _ => none
def tyIs : String → String → Bool
  | "bool", "int" => true
  | a, b => a == b
def tyTable : List String := ["NoneType", "bool", "int", "str", "tuple", "list", "dict"]
theorem kit_table : ∀ a ∈ tyTable, ∀ b ∈ tyTable, kitB a b = some (tyIs a b) := by decide +kernel
def oIsi : List D → AH → Res D
  | [d, .cst (.ty T)], ah => match tyName d ah with
    | some a => if T ∈ tyTable then .ok (.bl (tyIs a T)) ah else .stuck
    | none => .stuck
  | _, _ => .stuck
theorem tyName_v {K : PySem.W.Frag} {μ : List Addr} {H : Hp} {d : D} {v : V} {ah : AH} {a : String} (S : Sim K μ H ah) (r : Rep K μ H d v) (e : tyName d ah = some a) : TyX K H v (.type a) ∧ a ∈ tyTable := by
  cases d with
  | non => cases e; rw [d_non r]; exact ⟨.base .non, by decide⟩
  | bl b => cases e; rw [d_bl r]; exact ⟨.base (.bl b), by decide⟩
  | int i => cases e; rw [d_int r]; exact ⟨.base (.int i), by decide⟩
  | str i => cases e; rw [d_str r]; exact ⟨.base (.str i), by decide⟩
  | tup ds =>
    cases e
    obtain ⟨a, vs, rfl, q, _⟩ := d_tup r
    refine ⟨?_, by decide⟩
    rcases q with (q | ⟨o, q⟩) | ⟨o, its, n, q1, q2, _⟩
    · exact .base (.tup q)
    · exact .fTuple q
    · exact .kTuple q1 q2
  | ref n =>
    obtain ⟨b, eb, rfl⟩ := d_ref r
    unfold tyName at e
    dsimp only at e
    split at e
    · rename_i ds q
      cases e
      obtain ⟨vs, e0, _⟩ := S.ok n b _ eb q
      exact ⟨.base (.lst e0), by decide⟩
    · rename_i ds q
      cases e
      obtain ⟨vs, e0, _⟩ := S.ok n b _ eb q
      exact ⟨.base (.dK e0), by decide⟩
    · rename_i ds q
      cases e
      obtain ⟨vs, e0, _⟩ := S.ok n b _ eb q
      exact ⟨.base (.dT e0), by decide⟩
    · cases e
  | cst w => cases e
theorem cd_isi : CallD X (RD X.K) (.builtin "isinstance") oIsi := fun W => by
  refine CallR.imp call_isi fun vs H Q ⟨μ, ah, ds, S, r, hp⟩ => ?_
  unfold oIsi at hp
  split at hp
  · rename_i ah' d T
    obtain ⟨v, w, rfl, r1, r2⟩ := reps2 r
    have ew : w = .ty T := by simpa only [Rep] using r2
    subst ew
    split at hp
    · rename_i a e
      split at hp
      · rename_i hT
        obtain ⟨h1, h2⟩ := tyName_v S r1 e
        exact ⟨v, _, _, _, _, rfl, .ty T, h1, kit_ty (kit_table a h2 T hT), Post.ok1 (R := RD X.K) hp S r_bl⟩
      · exact hp.elim
    · exact hp.elim
  · exact hp.elim
/-- a built-in type's name as an argument -/
theorem pd_ty {x : Str} {T : String} {pos : Pos} (hg : Gl X x) (hm : X.mg x = none) (hv : bootBuiltins x = some (.type T)) (hn : x ≠ "__name__" := by decide) (hd : (x == ("__debug__" : Str)) = false := by decide) : PD X W (.Name x pos) (eC (.cst (.ty T))) :=
  pd_c (pe_bltn (v := .ty T) hg hm hv rfl hn hd) fun _ _ => by simp only [Rep]

/-! ### repr, str, int -/
def oRepr : List D → AH → Res D
  | [d], ah => match pd ah d with
    | some p => if p.showable = true ∧ p.shown.length ≤ line ∧ p.depth ≤ 63 then .ok (.str p.shown) ah else .stuck
    | none => .stuck
  | _, _ => .stuck
theorem cd_repr (hr : Rm k X.A) : CallD X (RD X.K) (.builtin "repr") oRepr := fun W => by
  intro pins s σ H xs us Q I rv h
  obtain ⟨μ, ah, ds, S, r, hp⟩ := h
  unfold oRepr at hp
  split at hp
  · rename_i ah' d
    obtain ⟨v, rfl, r1⟩ := reps1 r
    obtain ⟨u, rfl, ru⟩ := vals1 rv
    split at hp
    · rename_i p e
      split at hp
      · rename_i hc
        have q := Inv.sr I S deep d v u p e r1 ru
        refine SR.repr q hc.1 (line_le hc.2.1) hr.gd (by have := hr.u65; have := hc.2.2; omega) fun h' t tk kk => ?_
        exact ⟨.str p.shown, H, I.kept kk, ⟨t, rfl⟩, Post.ok1 (R := RD X.K) hp S r_str⟩
      · exact hp.elim
    · exact hp.elim
  · exact hp.elim
def oStr : List D → AH → Res D
  | [.int i], ah => if i.natAbs.log2 < 1920 then .ok (.str (toString i)) ah else .stuck
  | [.bl b], ah => .ok (.str (if b then "True" else "False")) ah
  | [.str x], ah => .ok (.str x) ah
  | [.non], ah => .ok (.str "None") ah
  | _, _ => .stuck
theorem call_str_bn : CallR X (.type "str") (fun xs H Q => (∃ b : Bool, xs = [.bl b] ∧ Q (.str (if b then "True" else "False")) H) ∨ (xs = [.non] ∧ Q (.str "None") H)) := by
  intro pins s σ H xs us Q I r h
  rcases h with ⟨b, rfl, q⟩ | ⟨rfl, q⟩
  · obtain ⟨u, rfl, ru⟩ := vals1 r
    cases ru
    exact PySem.P.str_of_bool ⟨.str _, H, I.tok _, ⟨_, rfl⟩, q⟩
  · obtain ⟨u, rfl, ru⟩ := vals1 r
    cases ru
    exact PySem.P.str_of_none ⟨.str _, H, I.tok _, ⟨_, rfl⟩, q⟩
theorem cd_str : CallD X (RD X.K) (.type "str") oStr := fun W => by
  refine CallR.imp ((call_str_int.or SkE.call_str_str).or call_str_bn) fun vs H Q ⟨μ, ah, ds, S, r, hp⟩ => ?_
  unfold oStr at hp
  split at hp
  · obtain ⟨v, rfl, r1⟩ := reps1 r
    split at hp
    · rename_i hl
      rw [d_int r1]; exact .inl (.inl ⟨_, rfl, hl, Post.ok1 (R := RD X.K) hp S r_str⟩)
    · exact hp.elim
  · obtain ⟨v, rfl, r1⟩ := reps1 r
    rw [d_bl r1]; exact .inr (.inl ⟨_, rfl, Post.ok1 (R := RD X.K) hp S r_str⟩)
  · obtain ⟨v, rfl, r1⟩ := reps1 r
    rw [d_str r1]; exact .inl (.inr ⟨_, rfl, Post.ok1 (R := RD X.K) hp S r_str⟩)
  · obtain ⟨v, rfl, r1⟩ := reps1 r
    rw [d_non r1]; exact .inr (.inr ⟨rfl, Post.ok1 (R := RD X.K) hp S r_str⟩)
  · exact hp.elim
def oInt : List D → AH → Res D
  | [.int i], ah => .ok (.int i) ah
  | [.bl b], ah => .ok (.int (if b then 1 else 0)) ah
  | _, _ => .stuck
theorem cd_int : CallD X (RD X.K) (.type "int") oInt := fun W => by
  refine CallR.imp call_int1 fun vs H Q ⟨μ, ah, ds, S, r, hp⟩ => ?_
  unfold oInt at hp
  split at hp
  · obtain ⟨v, rfl, r1⟩ := reps1 r
    rw [d_int r1]; exact .inl ⟨_, rfl, Post.ok1 (R := RD X.K) hp S r_int⟩
  · obtain ⟨v, rfl, r1⟩ := reps1 r
    rw [d_bl r1]; exact .inr ⟨_, rfl, Post.ok1 (R := RD X.K) hp S r_int⟩
  · exact hp.elim
def oMin : List D → AH → Res D
  | [.int i, .int j], ah => .ok (.int (if j < i then j else i)) ah
  | _, _ => .stuck
def oMax : List D → AH → Res D
  | [.int i, .int j], ah => .ok (.int (if j > i then j else i)) ah
  | _, _ => .stuck
theorem cd_min (hc : X.calm = true) : CallD X (RD X.K) (.builtin "min") oMin := fun W => by
  refine CallR.imp (call_min2 hc) fun vs H Q ⟨μ, ah, ds, S, r, hp⟩ => ?_
  unfold oMin at hp
  split at hp
  · obtain ⟨v, w, rfl, r1, r2⟩ := reps2 r
    rw [d_int r1, d_int r2]; exact ⟨_, _, rfl, Post.ok1 (R := RD X.K) hp S r_int⟩
  · exact hp.elim
theorem cd_max (hc : X.calm = true) : CallD X (RD X.K) (.builtin "max") oMax := fun W => by
  refine CallR.imp (call_max2 hc) fun vs H Q ⟨μ, ah, ds, S, r, hp⟩ => ?_
  unfold oMax at hp
  split at hp
  · obtain ⟨v, w, rfl, r1, r2⟩ := reps2 r
    rw [d_int r1, d_int r2]; exact ⟨_, _, rfl, Post.ok1 (R := RD X.K) hp S r_int⟩
  · exact hp.elim

/-! ### sum, all, any, tuple, list of a sequence -/
def dInt : D → Option Int
  | .int i => some i
  | _ => none
def dBool : D → Option Bool
  | .bl b => some b
  | _ => none
def dStr : D → Option Str
  | .str b => some b
  | _ => none
theorem ints_of : ∀ {ds : List D} {ns : List Int}, optAll dInt ds = some ns → ds = ns.map D.int
  | [], _, h => by cases h; rfl
  | d :: ds, _, h => by
    obtain ⟨b, cs, rfl, h1, h2⟩ := optAll_cons h
    rw [ints_of h2]
    cases d <;> simp only [dInt, Option.some.injEq, reduceCtorEq] at h1
    subst h1; rfl
theorem bools_of : ∀ {ds : List D} {ns : List Bool}, optAll dBool ds = some ns → ds = ns.map D.bl
  | [], _, h => by cases h; rfl
  | d :: ds, _, h => by
    obtain ⟨b, cs, rfl, h1, h2⟩ := optAll_cons h
    rw [bools_of h2]
    cases d <;> simp only [dBool, Option.some.injEq, reduceCtorEq] at h1
    subst h1; rfl
theorem strs_of : ∀ {ds : List D} {ns : List Str}, optAll dStr ds = some ns → ds = ns.map D.str
  | [], _, h => by cases h; rfl
  | d :: ds, _, h => by
    obtain ⟨b, cs, rfl, h1, h2⟩ := optAll_cons h
    rw [strs_of h2]
    cases d <;> simp only [dStr, Option.some.injEq, reduceCtorEq] at h1
    subst h1; rfl
def sSum (ds : List D) (ah : AH) : Res D := match optAll dInt ds with
  | some ns => .ok (.int ns.sum) ah
  | none => .stuck
def sAll (ds : List D) (ah : AH) : Res D := match optAll dBool ds with
  | some bs => .ok (.bl (bs.all id)) ah
  | none => .stuck
def sAny (ds : List D) (ah : AH) : Res D := match optAll dBool ds with
  | some bs => .ok (.bl (bs.any id)) ah
  | none => .stuck
theorem cs_sum (hc : X.calm = true) : CallS X (RM X.K) (RD X.K) (.builtin "sum") sSum := fun W => by
  refine CallR.imp (cr_sum hc) fun vs H Q ⟨μ, ah, ds, x, H₀, ev, S, ⟨a, ws, ex, q, r⟩, hp⟩ => ?_
  subst ev ex
  unfold sSum at hp
  split at hp
  · rename_i ns e
    rw [ints_of e] at r
    rw [r.ints] at q
    exact ⟨a, ns, rfl, q, Post.ok1 (R := RD X.K) hp S r_int⟩
  · exact hp.elim
theorem cs_all (hc : X.calm = true) : CallS X (RM X.K) (RD X.K) (.builtin "all") sAll := fun W => by
  refine CallR.imp (cr_all hc) fun vs H Q ⟨μ, ah, ds, x, H₀, ev, S, ⟨a, ws, ex, q, r⟩, hp⟩ => ?_
  subst ev ex
  unfold sAll at hp
  split at hp
  · rename_i ns e
    rw [bools_of e] at r
    rw [r.bools] at q
    exact ⟨a, ns, rfl, q, Post.ok1 (R := RD X.K) hp S r_bl⟩
  · exact hp.elim
theorem cs_any (hc : X.calm = true) : CallS X (RM X.K) (RD X.K) (.builtin "any") sAny := fun W => by
  refine CallR.imp (cr_any hc) fun vs H Q ⟨μ, ah, ds, x, H₀, ev, S, ⟨a, ws, ex, q, r⟩, hp⟩ => ?_
  subst ev ex
  unfold sAny at hp
  split at hp
  · rename_i ns e
    rw [bools_of e] at r
    rw [r.bools] at q
    exact ⟨a, ns, rfl, q, Post.ok1 (R := RD X.K) hp S r_bl⟩
  · exact hp.elim
def sTup (ds : List D) (ah : AH) : Res D := .ok (.tup ds) ah
theorem cs_tuple : CallS X (RQ X.K) (RD X.K) (.type "tuple") sTup := fun W => by
  refine CallR.imp call_tuple_of fun vs H Q ⟨μ, ah, ds, x, H₀, ev, S, ⟨a, ws, ex, q, r⟩, hp⟩ => ?_
  subst ev ex
  refine ⟨a, ws, rfl, ?_⟩
  rcases q with q | q
  · exact .inl ⟨q, fun l hl => hp.newT S r hl⟩
  · exact .inr ⟨q, Post.ok1 (R := RD X.K) hp S (r_tup q r)⟩
def sList (ds : List D) (ah : AH) : Res (List D) := .ok ds ah
theorem cs_list : CallS X (RQ X.K) (RL X.K) (.type "list") sList := fun W => by
  refine CallR.imp call_list_of fun vs H Q ⟨μ, ah, ds, x, H₀, ev, S, ⟨a, ws, ex, q, r⟩, hp⟩ => ?_
  subst ev ex
  exact ⟨a, ws, rfl, q, fun l hl => hp.newL S r hl⟩

/-! ### a[i] -/
def ixD {α : Type} (xs : List α) (i : Int) : Option α := (ixN xs.length i).bind fun j => xs[j]?
def valD {κ : Type} [DecidableEq κ] (kvs : List (κ × D)) (k : κ) : Option D := (kvs.find? fun kv => decide (kv.1 = k)).map (·.2)
def oIx : D → D → AH → Res D
  | .tup ds, .int i, ah => match ixD ds i with
    | some d => .ok d ah
    | none => .stuck
  | .str z, .int i, ah => if z.length ≤ line then match ixD z.cps.toList i with
    | some c => .ok (.str ⟨#[c]⟩) ah
    | none => .stuck else .stuck
  | .ref n, .int i, ah => match ah[n]? with
    | some (.lst ds) => match ixD ds i with
      | some d => .ok d ah
      | none => .stuck
    | some (.ro ds) => match ixD ds i with
      | some d => .ok d ah
      | none => .stuck
    | _ => .stuck
  | _, _, _ => .stuck
theorem ixD_get {K : PySem.W.Frag} {μ : List Addr} {H : Hp} {ds : List D} {vs : List V} {i : Int} {d : D} (r : Reps K μ H ds vs) (e : ixD ds i = some d) : ∃ v, atI vs i = some v ∧ Rep K μ H d v := by
  unfold ixD at e
  obtain ⟨j, e1, e2⟩ := Option.bind_eq_some_iff.mp e
  obtain ⟨v, e3, r2⟩ := r.get e2
  exact ⟨v, by unfold atI; rw [← r.length, e1]; exact e3, r2⟩
theorem pe_ixσ {r : L2.St → R2} {a b : Expr} {ta tb : TE} (hr : ∀ σ, IxR X (r σ)) (ha : PE X a ta) (hb : PE X b tb) (hs : PlainIx b) : PE X (.Subscript a b pos) (fun σ H Q => tOp (r σ) ta tb σ H Q) :=
  ⟨fun pins s σ H Q I h => (pe_ix (hr σ) ha hb hs).run pins s σ H Q I h⟩
theorem IxR.imp {r r' : R2} (h : IxR X r) (k : ∀ x y H Q, r' x y H Q → r x y H Q) : IxR X r' := fun ve se pins s σ H x y v u Q I rx ry q => h ve se pins s σ H x y v u Q I rx ry (k x y H Q q)
theorem ix_d (Wx : Value → Option Addr → Hp → Prop) : IxR X (rO (R := RD X.K) X.K Wx oIx) := by
  refine IxR.imp ix_seq fun x y H Q ⟨μ, ah, dx, dy, S, rx, ry, hp⟩ => ?_
  unfold oIx at hp
  split at hp
  · split at hp
    · rename_i d e
      obtain ⟨a, vs, rfl, q, r2⟩ := d_tup rx
      obtain ⟨v, ev, rv⟩ := ixD_get r2 e
      rw [d_int ry]
      exact .inr (.inl ⟨a, vs, _, v, rfl, rfl, q, ev, Post.ok1 (R := RD X.K) hp S rv⟩)
    · exact hp.elim
  · split at hp
    · rename_i hl
      split at hp
      · rename_i c e
        rw [d_str rx, d_int ry]
        exact .inr (.inr ⟨_, _, c, rfl, rfl, line_le hl, e, Post.ok1 (R := RD X.K) hp S r_str⟩)
      · exact hp.elim
    · exact hp.elim
  · rename_i ah' n i
    obtain ⟨a, ea, rfl⟩ := d_ref rx
    split at hp
    · rename_i ds q
      split at hp
      · rename_i d e
        obtain ⟨b, vs, eb, q2, r2⟩ := S.list (show listAt _ n = some ds by unfold listAt; rw [q])
        rw [ea] at eb; cases eb
        obtain ⟨v, ev, rv⟩ := ixD_get r2 e
        rw [d_int ry]
        exact .inl ⟨a, vs, _, v, rfl, rfl, q2, ev, Post.ok1 (R := RD X.K) hp S rv⟩
      · exact hp.elim
    · rename_i ds q
      split at hp
      · rename_i d e
        obtain ⟨b, vs, eb, q2, r2⟩ := S.list (show listAt _ n = some ds by unfold listAt; rw [q])
        rw [ea] at eb; cases eb
        obtain ⟨v, ev, rv⟩ := ixD_get r2 e
        rw [d_int ry]
        exact .inl ⟨a, vs, _, v, rfl, rfl, q2, ev, Post.ok1 (R := RD X.K) hp S rv⟩
      · exact hp.elim
    · exact hp.elim
  · exact hp.elim
theorem pd_ix {a b : Expr} {ma mb : EM D} (ha : PD X W a ma) (hb : PD X W b mb) (hs : PlainIx b := by exact fun _ _ => rfl) : PD X W (.Subscript a b pos) (e2 ma mb oIx) :=
  PE.weak (pe_ixσ (fun σ => ix_d (fun c d H' => W c d σ H')) ha hb hs) fun _ _ _ h => op2 h
/-- a new list's item -/
def lIx (ds : List D) (d : D) (ah : AH) : Res D := match d with
  | .int i => match ixD ds i with
    | some x => .ok x ah
    | none => .stuck
  | _ => .stuck
theorem pd_ixL {a b : Expr} {ma : EM (List D)} {mb : EM D} (ha : PL X W a ma) (hb : PD X W b mb) (hs : PlainIx b := by exact fun _ _ => rfl) : PD X W (.Subscript a b pos) (e2 ma mb lIx) := by
  refine PE.weak (pe_ix ix_list ha hb hs) fun σ H Q ⟨μ, env, ah, he, hs, hp⟩ => ?_
  refine ⟨μ, env, ah, he, hs, hp.bind fun ds ah1 μ1 x H1 e1 s1 r1 p1 => ?_⟩
  refine tG_next he e1 s1 (p1.bind fun dy ah2 μ2 y H2 e2 s2 r2 p2 => ?_)
  obtain ⟨l, vs, rfl, _, hl, hm, r⟩ := r1
  cases dy with
  | int i =>
    unfold lIx at p2
    dsimp only at p2
    split at p2
    · rename_i d e
      obtain ⟨v, ev, rv⟩ := ixD_get (r.ext e2) e
      rw [d_int (show Rep X.K μ2 H2 (.int i) y from r2)]
      exact ⟨l, vs, i, v, rfl, rfl, SqL.of (e2.keep l _ hm hl), ev, Post.ok1 (R := RD X.K) p2 s2 rv⟩
    · exact p2.elim
  | _ => exact p2.elim

/-! ### a[lo:hi] -/
def cut {α : Type} (xs : List α) (lo hi : Option Int) : List α := (xs.drop (HT.sIx xs.length 0 lo)).take (HT.sIx xs.length xs.length hi - HT.sIx xs.length 0 lo)
def oPart (m : Option (EM D)) : EM (Option Int) := match m with
  | none => fun _ ah => .ok none ah
  | some m => e1 m fun d ah => match d with
    | .int i => .ok (some i) ah
    | _ => .stuck
def RP : Rel (Option Int) (Option Int) := ⟨fun _ _ _ a b => a = b, fun _ h => h⟩
theorem PO.weak {p : Option Expr} {t t' : TO} (h : PO X p t) (k : ∀ σ H Q, t' σ H Q → t σ H Q) : PO X p t' := ⟨fun pins s σ H Q I q => h.run pins s σ H Q I (k σ H Q q)⟩
def PPart (X : Cx) (W : WX) (p : Option Expr) (m : EM (Option Int)) : Prop := PO X p (tG X.K RP W m)
theorem pp_none : PPart X W none (oPart none) := PO.weak po_none fun σ H Q ⟨μ, env, ah, he, hs, hp⟩ => Post.ok1 (R := RP) hp hs rfl
theorem pp_some (h : PD X W e m) : PPart X W (some e) (oPart (some m)) := by
  refine PO.weak (po_some h) fun σ H Q ⟨μ, env, ah, he, hs, hp⟩ => ?_
  refine ⟨μ, env, ah, he, hs, hp.bind fun d ah1 μ1 x H1 e1 s1 r1 p1 => ?_⟩
  cases d with
  | int i => exact ⟨i, d_int (show Rep X.K μ1 H1 (.int i) x from r1), Post.ok1 (R := RP) p1 s1 rfl⟩
  | _ => exact p1.elim
def e3 {α β γ δ : Type} (ma : EM α) (mb : EM β) (mc : EM γ) (f : α → β → γ → AH → Res δ) : EM δ := fun env ah => (ma env ah).bind fun x ah1 => (mb env ah1).bind fun y ah2 => (mc env ah2).bind fun z ah3 => f x y z ah3
/-- of a tuple, a text -/
def oCut (d : D) (lo hi : Option Int) (ah : AH) : Res D := match d with
  | .tup ds => .ok (.tup (cut ds lo hi)) ah
  | _ => .stuck
theorem Reps.cut {K : PySem.W.Frag} {μ : List Addr} {H : Hp} {ds : List D} {vs : List V} (r : Reps K μ H ds vs) (lo hi : Option Int) : Reps K μ H (HA.cut ds lo hi) (cutV vs lo hi) := by
  unfold HA.cut cutV
  rw [r.length]
  exact (r.drop _).take _
theorem cut_whole {α : Type} {ds : List α} {lo hi : Option Int} (h : HT.sIx ds.length 0 lo = 0 ∧ HT.sIx ds.length ds.length hi = ds.length) : cut ds lo hi = ds := by
  unfold cut
  rw [h.1, h.2]; simp
variable {lo hi : Option Expr} {mlo mhi : EM (Option Int)} {p2 : Pos}
theorem pd_cut (he : PD X W e m) (hl : PPart X W lo mlo) (hh : PPart X W hi mhi) : PD X W (.Subscript e (.Slice lo hi none p2) pos) (e3 m mlo mhi oCut) := by
  refine PE.weak (pe_slice sl_tupA he hl hh) fun σ H Q ⟨μ, env, ah, he, hs, hp⟩ => ?_
  refine ⟨μ, env, ah, he, hs, hp.bind fun d ah1 μ1 x H1 e1 s1 r1 p1 => ?_⟩
  refine tG_next he e1 s1 (p1.bind fun lo ah2 μ2 lo' H2 e2 s2 r2 p2 => ?_)
  refine tG_next he (e1.trans e2) s2 (p2.bind fun hi ah3 μ3 hi' H3 e3 s3 r3 p3 => ?_)
  cases (show lo = lo' from r2)
  cases (show hi = hi' from r3)
  cases d with
  | tup ds =>
    obtain ⟨a, vs, rfl, q, r⟩ := d_tup (Rep.ext (Rep.ext (show Rep X.K μ1 H1 (.tup ds) x from r1) e2) e3)
    refine ⟨a, vs, rfl, q, fun hw => ?_, fun _ p np => ?_⟩
    · refine Post.ok1 (R := RD X.K) p3 s3 (r_tup q ?_)
      rw [cut_whole (by rw [r.length]; exact hw)]; exact r
    · exact Post.newT p3 s3 (r.cut lo hi) np
  | _ => exact p3.elim
/-- of a list: a new list -/
def lCut (ds : List D) (lo hi : Option Int) (ah : AH) : Res (List D) := .ok (cut ds lo hi) ah
theorem pl_cut (he : PD X W e m) (hl : PPart X W lo mlo) (hh : PPart X W hi mhi) : PL X W (.Subscript e (.Slice lo hi none p2) pos) (e3 m mlo mhi fun d lo hi ah => (listOf d ah).bind fun ds ah => lCut ds lo hi ah) := by
  refine PE.weak (pe_slice sl_list he hl hh) fun σ H Q ⟨μ, env, ah, he, hs, hp⟩ => ?_
  refine ⟨μ, env, ah, he, hs, hp.bind0 fun d ah1 μ1 x H1 e1 s1 r1 p1 => ?_⟩
  refine ⟨μ1, env, ah1, he.ext e1, s1, ?_⟩
  refine (Post.ext e1 p1).bind fun lo ah2 μ2 lo' H2 e2 s2 r2 p2 => ?_
  refine tG_next he (e1.trans e2) s2 (p2.bind fun hi ah3 μ3 hi' H3 e3 s3 r3 p3 => ?_)
  cases (show lo = lo' from r2)
  cases (show hi = hi' from r3)
  cases d with
  | ref n =>
    obtain ⟨a, ea, rfl⟩ := d_ref (Rep.ext (Rep.ext (show Rep X.K μ1 H1 (.ref n) x from r1) e2) e3)
    unfold listOf at p3
    dsimp only at p3
    split at p3
    · rename_i ds e
      obtain ⟨b, vs, eb, q, r⟩ := s3.list e
      rw [ea] at eb; cases eb
      exact ⟨a, vs, rfl, q, fun p np => Post.newL p3 s3 (r.cut lo hi) np⟩
    · exact p3.elim
  | _ => exact p3.elim
end
end HA

/-! HA8: statements, targets, what is walked, for, while. -/
namespace HA
open PySem PySem.Spec PyProof.Rows L2

/-! ### == of data is decidable -/
mutual
def D.eqb : D → D → Bool
  | .non, .non => true
  | .bl a, .bl b => decide (a = b)
  | .int a, .int b => decide (a = b)
  | .str a, .str b => decide (a = b)
  | .tup a, .tup b => D.eqbs a b
  | .ref a, .ref b => decide (a = b)
  | .cst a, .cst b => decide (a = b)
  | _, _ => false
def D.eqbs : List D → List D → Bool
  | [], [] => true
  | a :: as, b :: bs => D.eqb a b && D.eqbs as bs
  | _, _ => false
end
mutual
theorem D.eqb_iff : ∀ (a b : D), D.eqb a b = true ↔ a = b
  | .non, b => by cases b <;> simp [D.eqb]
  | .bl x, b => by cases b <;> simp [D.eqb]
  | .int x, b => by cases b <;> simp [D.eqb]
  | .str x, b => by cases b <;> simp [D.eqb]
  | .tup x, b => by
    cases b with
    | tup y => simp only [D.eqb, D.tup.injEq]; exact D.eqbs_iff x y
    | _ => simp [D.eqb]
  | .ref x, b => by cases b <;> simp [D.eqb]
  | .cst x, b => by cases b <;> simp [D.eqb]
theorem D.eqbs_iff : ∀ (a b : List D), D.eqbs a b = true ↔ a = b
  | [], b => by cases b <;> simp [D.eqbs]
  | x :: xs, b => by
    cases b with
    | nil => simp [D.eqbs]
    | cons y ys => simp only [D.eqbs, Bool.and_eq_true, List.cons.injEq]; rw [D.eqb_iff x y, D.eqbs_iff xs ys]
end
instance : DecidableEq D := fun a b => decidable_of_iff _ (D.eqb_iff a b)

/-! ### what statements come to -/
inductive SRes where
  | nx (env : Env) (h : AH)
  | rt (d : D) (h : AH)
  | bk (env : Env) (h : AH)
  | ct (env : Env) (h : AH)
  | exn (c : Addr) (fs : Option (List (Str × D))) (env : Env) (h : AH)
  | stuck
abbrev SM := Env → AH → SRes
def PostS (K : PySem.W.Frag) (W : WX) (D : Ends) (μ : List Addr) (H : Hp) : SRes → Prop
  | .nx env' ah' => ∀ μ' σ' H', Ext K μ H μ' H' → Sim K μ' H' ah' → EnvRel K μ' H' env' σ' → D.nx σ' H'
  | .rt d ah' => ∀ μ' v H', Ext K μ H μ' H' → Sim K μ' H' ah' → Rep K μ' H' d v → D.rt v H'
  | .bk env' ah' => ∀ μ' σ' H', Ext K μ H μ' H' → Sim K μ' H' ah' → EnvRel K μ' H' env' σ' → D.bk σ' H'
  | .ct env' ah' => ∀ μ' σ' H', Ext K μ H μ' H' → Sim K μ' H' ah' → EnvRel K μ' H' env' σ' → D.ct σ' H'
  | .exn c fs env' ah' => ∀ μ' σ' H' od, Ext K μ H μ' H' → Sim K μ' H' ah' → EnvRel K μ' H' env' σ' → ExnOk K μ' H' fs od → W (.ref c) od σ' H'
  | .stuck => False
section
variable {K : PySem.W.Frag} {W : WX} {D : Ends} {μ μ1 : List Addr} {H H1 : Hp}
theorem PostS.ext {r : SRes} (e : Ext K μ H μ1 H1) (h : PostS K W D μ H r) : PostS K W D μ1 H1 r := by
  cases r with
  | nx env ah => exact fun μ' σ' H' e' => h μ' σ' H' (e.trans e')
  | rt d ah => exact fun μ' σ' H' e' => h μ' σ' H' (e.trans e')
  | bk env ah => exact fun μ' σ' H' e' => h μ' σ' H' (e.trans e')
  | ct env ah => exact fun μ' σ' H' e' => h μ' σ' H' (e.trans e')
  | exn c fs env ah => exact fun μ' σ' H' od e' => h μ' σ' H' od (e.trans e')
  | stuck => exact h
end
/-- an expression's answer, then the rest -/
def Res.thenS {α : Type} (r : Res α) (env : Env) (f : α → AH → SRes) : SRes := match r with
  | .ok a h => f a h
  | .exn c fs h => .exn c fs env h
  | .stuck => .stuck
@[simp] theorem Res.thenS_ok {α : Type} (a : α) (h : AH) (env : Env) (f : α → AH → SRes) : (Res.ok a h).thenS env f = f a h := rfl
@[simp] theorem Res.thenS_exn {α : Type} (c : Addr) (fs : Option (List (Str × D))) (h : AH) (env : Env) (f : α → AH → SRes) : (Res.exn c fs h : Res α).thenS env f = .exn c fs env h := rfl
@[simp] theorem Res.thenS_stuck {α : Type} (env : Env) (f : α → AH → SRes) : (Res.stuck : Res α).thenS env f = .stuck := rfl
theorem PostS.bind {K : PySem.W.Frag} {W : WX} {D : Ends} {μ : List Addr} {H : Hp} {β γ : Type} {R : Rel β γ} {P : γ → Hp → Prop} {r : Res β} {env : Env} {σ : L2.St} {f : β → AH → SRes} (h : PostS K W D μ H (r.thenS env f)) (he : EnvRel K μ H env σ)
    (k : ∀ d ah1 μ1 x H1, Ext K μ H μ1 H1 → Sim K μ1 H1 ah1 → R.r H μ1 H1 d x → PostS K W D μ1 H1 (f d ah1) → P x H1) : Post K R (fun c d H' => W c d σ H') μ H P r := by
  cases r with
  | ok d ah => exact fun μ' x H' e' s' r' => k d ah μ' x H' e' s' r' (PostS.ext e' h)
  | exn c fs ah => exact fun μ' H' od e' s' x => h μ' σ H' od e' s' (he.ext e') x
  | stuck => exact h
def tS (K : PySem.W.Frag) (W : WX) (m : SM) : TS := fun D σ H => ∃ (μ : List Addr) (env : Env) (ah : AH), EnvRel K μ H env σ ∧ Sim K μ H ah ∧ PostS K W D μ H (m env ah)
theorem PS.weak {X : Cx} {st : Stmt} {t t' : TS} (h : PS X st t) (k : ∀ D σ H, t' D σ H → t D σ H) : PS X st t' := ⟨fun pins s σ H D I q => h.run pins s σ H D I (k D σ H q)⟩
theorem PSs.weak {X : Cx} {st : List Stmt} {t t' : TS} (h : PSs X st t) (k : ∀ D σ H, t' D σ H → t D σ H) : PSs X st t' := ⟨fun pins s σ H D I q => h.run pins s σ H D I (k D σ H q)⟩
def PZ (X : Cx) (W : WX) (st : Stmt) (m : SM) : Prop := PS X st (tS X.K W m)
def PZs (X : Cx) (W : WX) (st : List Stmt) (m : SM) : Prop := PSs X st (tS X.K W m)

def sSkip : SM := fun env ah => .nx env ah
def sSeq (a b : SM) : SM := fun env ah => match a env ah with
  | .nx env1 ah1 => b env1 ah1
  | r => r
def sRet (m : EM D) : SM := fun env ah => (m env ah).thenS env fun d ah1 => .rt d ah1
def sRetN : SM := fun _ ah => .rt .non ah
def sExpr (m : EM D) : SM := fun env ah => (m env ah).thenS env fun _ ah1 => .nx env ah1
def sIf (c : EM Bool) (a b : SM) : SM := fun env ah => (c env ah).thenS env fun x ah1 => if x = true then a env ah1 else b env ah1
section
variable {X : Cx} {W : WX} {k : Nat} {e : Expr} {es : List Expr} {m : EM D} {ml : EM (List D)} {pos : Pos} {st : Stmt} {rest : List Stmt} {ma mb : SM}
theorem post_next {K : PySem.W.Frag} {W : WX} {D : Ends} {μ : List Addr} {H : Hp} {env : Env} {ah : AH} {σ : L2.St} (h : PostS K W D μ H (.nx env ah)) (S : Sim K μ H ah) (E : EnvRel K μ H env σ) : D.nx σ H := h μ σ H Ext.refl S E
theorem pzs_nil : PZs X W [] sSkip := PSs.weak pss_nil fun D σ H ⟨μ, env, ah, he, hs, hp⟩ => post_next hp hs he
theorem pz_pass : PZ X W (.Pass pos) sSkip := PS.weak ps_pass fun D σ H ⟨μ, env, ah, he, hs, hp⟩ => post_next hp hs he
theorem pz_break : PZ X W (.Break pos) (fun env ah => .bk env ah) := PS.weak ps_break fun D σ H ⟨μ, env, ah, he, hs, hp⟩ => hp μ σ H Ext.refl hs he
theorem pz_continue : PZ X W (.Continue pos) (fun env ah => .ct env ah) := PS.weak ps_continue fun D σ H ⟨μ, env, ah, he, hs, hp⟩ => hp μ σ H Ext.refl hs he
theorem pzs_cons (h1 : PZ X W st ma) (h2 : PZs X W rest mb) : PZs X W (st :: rest) (sSeq ma mb) := by
  refine PSs.weak (pss_cons h1 h2) fun D σ H ⟨μ, env, ah, he, hs, hp⟩ => ?_
  refine ⟨μ, env, ah, he, hs, ?_⟩
  unfold sSeq at hp
  cases q : ma env ah with
  | nx env1 ah1 =>
    rw [q] at hp
    exact fun μ' σ' H' e' s' r' => ⟨μ', env1, ah1, r', s', PostS.ext e' hp⟩
  | rt d ah1 => rw [q] at hp; exact hp
  | bk env1 ah1 => rw [q] at hp; exact hp
  | ct env1 ah1 => rw [q] at hp; exact hp
  | exn c fs env1 ah1 => rw [q] at hp; exact hp
  | stuck => rw [q] at hp; exact hp
theorem pzs_one (h1 : PZ X W st ma) : PZs X W [st] ma := PSs.weak (pss_one h1) fun D σ H h => h
theorem pz_ret (h : PD X W e m) : PZ X W (.Return (some e) pos) (sRet m) := by
  refine PS.weak (ps_ret h) fun D σ H ⟨μ, env, ah, he, hs, hp⟩ => ?_
  exact ⟨μ, env, ah, he, hs, PostS.bind hp he fun d ah1 μ1 x H1 e1 s1 r1 p1 => p1 μ1 x H1 Ext.refl s1 r1⟩
theorem pz_retN : PZ X W (.Return none pos) sRetN := PS.weak ps_retN fun D σ H ⟨μ, env, ah, he, hs, hp⟩ => hp μ .non H Ext.refl hs (show Rep X.K μ H .non .non by simp only [Rep])
theorem pz_expr (h : PD X W e m) (hs : swapsWith e none pos.line X.env = pure false := by rfl) : PZ X W (.Expr e pos) (sExpr m) := by
  refine PS.weak (ps_expr h hs) fun D σ H ⟨μ, env, ah, he, hs, hp⟩ => ?_
  exact ⟨μ, env, ah, he, hs, PostS.bind hp he fun d ah1 μ1 x H1 e1 s1 r1 p1 => post_next p1 s1 (he.ext e1)⟩
theorem pz_if {c : Expr} {a b : List Stmt} {mc : EM Bool} (hc : PB X W c mc) (ha : PZs X W a ma) (hb : PZs X W b mb) : PZ X W (.If c a b pos) (sIf mc ma mb) := by
  refine PS.weak (ps_if hc ha hb) fun D σ H ⟨μ, env, ah, he, hs, hp⟩ => ?_
  refine ⟨μ, env, ah, he, hs, PostS.bind hp he fun d ah1 μ1 x H1 e1 s1 r1 p1 => ?_⟩
  cases (show d = x from r1)
  cases d with
  | true => exact ⟨μ1, env, ah1, he.ext e1, s1, p1⟩
  | false => exact ⟨μ1, env, ah1, he.ext e1, s1, p1⟩
/-- code that isn't reached -/
theorem pz_never : PZ X W st (fun _ _ => .stuck) := PS.weak ps_never fun D σ H ⟨μ, env, ah, he, hs, hp⟩ => hp
theorem pzs_never : PZs X W rest (fun _ _ => .stuck) := PSs.weak pss_never fun D σ H ⟨μ, env, ah, he, hs, hp⟩ => hp

/-! ### targets: ts are the slots that are set -/
abbrev TM := D → Env → AH → Option Env
/-- σ' is σ but at ts -/
def But (ts : List Nat) (σ σ' : L2.St) : Prop := σ'.length = σ.length ∧ ∀ j, j ∉ ts → σ'[j]? = σ[j]?
def tGt (K : PySem.W.Frag) (ts : List Nat) (tm : TM) : TG := fun v σ H Q => ∃ μ env ah d env', EnvRel K μ H env σ ∧ Sim K μ H ah ∧ Rep K μ H d v ∧ tm d env ah = some env' ∧ ∀ σ', EnvRel K μ H env' σ' → But ts σ σ' → Q σ' H
def tGts (K : PySem.W.Frag) (ts : List Nat) (tm : List D → Env → AH → Option Env) : TGs := fun vs σ H Q => ∃ μ env ah ds env', EnvRel K μ H env σ ∧ Sim K μ H ah ∧ Reps K μ H ds vs ∧ tm ds env ah = some env' ∧ ∀ σ', EnvRel K μ H env' σ' → But ts σ σ' → Q σ' H
theorem PG.weak {tg : Expr} {t t' : TG} (h : PG X tg t) (k : ∀ v σ H Q, t' v σ H Q → t v σ H Q) : PG X tg t' := ⟨fun pins s σ H v u Q I r q => h.run pins s σ H v u Q I r (k v σ H Q q)⟩
theorem PGs.weak {tg : List Expr} {t t' : TGs} (h : PGs X tg t) (k : ∀ v σ H Q, t' v σ H Q → t v σ H Q) : PGs X tg t' := ⟨fun pins s σ H v u Q I r q => h.run pins s σ H v u Q I r (k v σ H Q q)⟩
def PT1 (X : Cx) (tg : Expr) (ts : List Nat) (tm : TM) : Prop := PG X tg (tGt X.K ts tm)
def PTn (X : Cx) (tg : List Expr) (ts : List Nat) (tm : List D → Env → AH → Option Env) : Prop := PGs X tg (tGts X.K ts tm)
theorem But.refl {ts : List Nat} {σ : L2.St} : But ts σ σ := ⟨rfl, fun _ _ => rfl⟩
theorem But.trans {ts us : List Nat} {σ σ1 σ2 : L2.St} (a : But ts σ σ1) (b : But us σ1 σ2) : But (ts ++ us) σ σ2 := ⟨b.1.trans a.1, fun j h => by
  rw [List.mem_append, not_or] at h
  exact (b.2 j h.2).trans (a.2 j h.1)⟩
theorem EnvRel.set {K : PySem.W.Frag} {μ : List Addr} {H : Hp} {env : Env} {σ : L2.St} {d : D} {v : V} (h : EnvRel K μ H env σ) (r : Rep K μ H d v) (i : Nat) : EnvRel K μ H (env.set i (some d)) (σ.set i (some v)) := by
  refine ⟨by simp [h.1], fun j x e => ?_⟩
  by_cases hj : i = j
  · subst hj
    have hl : i < env.length := by
      have := (List.getElem?_eq_some_iff.mp e).1
      simpa using this
    rw [List.getElem?_set_self hl] at e
    cases e
    exact ⟨v, by rw [List.getElem?_set_self (by rw [← h.1]; exact hl)], r⟩
  · rw [List.getElem?_set_ne hj] at e
    obtain ⟨w, q, rw⟩ := h.2 j x e
    exact ⟨w, by rw [List.getElem?_set_ne hj]; exact q, rw⟩
def gSet (i : Nat) : TM := fun d env _ => some (env.set i (some d))
theorem pt_name {i : Nat} {x : Str} (hN : X.N.Nodup) (hi : X.N[i]? = some x) (hx : Loc X.env.scope x) (hf : X.fn x = true ∨ X.env.scope.names.lookup x = some .local := by first | exact .inl rfl | exact .inr rfl | assumption) : PT1 X (.Name x pos) [i] (gSet i) := by
  refine PG.weak (pg_name hN hi hx hf) fun v σ H Q ⟨μ, env, ah, d, env', he, hs, r, e, q⟩ => ?_
  cases e
  exact q _ (he.set r i) ⟨by simp, fun j h => List.getElem?_set_ne (by intro z; exact h (by simp [z]))⟩
def gNilD : List D → Env → AH → Option Env := fun ds env _ => match ds with
  | [] => some env
  | _ => none
def gConsD (t : TM) (u : List D → Env → AH → Option Env) : List D → Env → AH → Option Env := fun ds env ah => match ds with
  | d :: r => (t d env ah).bind fun env1 => u r env1 ah
  | [] => none
theorem ptn_nil : PTn X [] [] gNilD := by
  refine PGs.weak pgs_nil fun v σ H Q ⟨μ, env, ah, ds, env', he, hs, r, e, q⟩ => ?_
  unfold gNilD at e
  split at e
  · cases e
    simp only [Reps] at r
    exact ⟨r, q _ he But.refl⟩
  · cases e
theorem ptn_cons {t : TM} {ts us : List Nat} {u : List D → Env → AH → Option Env} (h1 : PT1 X e ts t) (h2 : PTn X es us u) (hs : (assignEach (e :: es) X.env).map (·.2) = assign e X.env :: (assignEach es X.env).map (·.2) := by rfl) : PTn X (e :: es) (ts ++ us) (gConsD t u) := by
  refine PGs.weak (pgs_cons h1 h2 hs) fun v σ H Q ⟨μ, env, ah, ds, env', he, hs, r, eq, q⟩ => ?_
  unfold gConsD at eq
  split at eq
  · obtain ⟨env1, e1, e2⟩ := Option.bind_eq_some_iff.mp eq
    simp only [Reps] at r
    obtain ⟨w, ws, rfl, r1, r2⟩ := r
    exact ⟨w, ws, rfl, μ, env, ah, _, env1, he, hs, r1, e1, fun σ1 he1 b1 => ⟨μ, env1, ah, _, env', he1, hs, r2, e2, fun σ2 he2 b2 => q σ2 he2 (b1.trans b2)⟩⟩
  · cases eq
/-- a tuple taken apart -/
def gTupD (n : Nat) (u : List D → Env → AH → Option Env) : TM := fun d env ah => match d with
  | .tup ds => if ds.length = n then u ds env ah else none
  | _ => none
theorem pt_tup {j : Nat} {ts : List Nat} {u : List D → Env → AH → Option Env} {n : Nat} (hc : X.calm = true) (h : PTn X es ts u) (hn : (assignEach es X.env).length = n := by rfl) (hst : (assignEach es X.env).findIdx? (·.1) = none := by rfl) : PT1 X (.Tuple es j pos) ts (gTupD n u) := by
  refine PG.weak (pg_tup hc h hn hst) fun v σ H Q ⟨μ, env, ah, d, env', he, hs, r, eq, q⟩ => ?_
  unfold gTupD at eq
  split at eq
  · split at eq
    · rename_i hl
      obtain ⟨a, vs, rfl, q1, r1⟩ := d_tup r
      exact ⟨a, vs, rfl, q1, by rw [← r1.length]; exact hl, μ, env, ah, _, env', he, hs, r1, eq, q⟩
    · cases eq
  · cases eq
def sAsg (m : EM D) (t : TM) : SM := fun env ah => (m env ah).thenS env fun d ah1 => match t d env ah1 with
  | some env1 => .nx env1 ah1
  | none => .stuck
theorem asg_step {t : TM} {ts : List Nat} {D : Ends} {σ : L2.St} {H : Hp} (h : tS X.K W (sAsg m t) D σ H) : tAsg (tG X.K (RD X.K) W m) (tGt X.K ts t) D σ H := by
  obtain ⟨μ, env, ah, he, hs, hp⟩ := h
  refine ⟨μ, env, ah, he, hs, PostS.bind hp he fun d ah1 μ1 x H1 e1 s1 r1 p1 => ?_⟩
  split at p1
  · rename_i env1 eq
    exact ⟨μ1, env, ah1, d, env1, he.ext e1, s1, r1, eq, fun σ' he' _ => post_next p1 s1 he'⟩
  · exact p1.elim
theorem pz_asg {tg : Expr} {t : TM} {ts : List Nat} (h : PD X W e m) (hg : PT1 X tg ts t) (hs : swapsWithSole [tg] e pos.line X.env = pure false := by rfl) (hw : swappedStores [tg] e X.env = pure none := by rfl) (h1 : (assignEach [tg] X.env).map (·.2) = [assign tg X.env] := by rfl) : PZ X W (.Assign [tg] e pos) (sAsg m t) :=
  PS.weak (ps_asg h hg hs hw h1) fun _ _ _ q => asg_step q
theorem pz_set {i : Nat} {x : Str} {pos' : Pos} (hN : X.N.Nodup) (hi : X.N[i]? = some x) (hx : Loc X.env.scope x) (h : PD X W e m) (hs : swapsWith e (some (.Name x pos')) pos.line X.env = pure false := by rfl) (hf : X.fn x = true ∨ X.env.scope.names.lookup x = some .local := by first | exact .inl rfl | exact .inr rfl | assumption) : PZ X W (.Assign [.Name x pos'] e pos) (sAsg m (gSet i)) := by
  refine PS.weak (ps_set hN hi hx h hs hf) fun D σ H q => ?_
  obtain ⟨μ, env, ah, he, hs, hp⟩ := q
  refine ⟨μ, env, ah, he, hs, PostS.bind hp he fun d ah1 μ1 x H1 e1 s1 r1 p1 => ?_⟩
  exact post_next p1 s1 ((he.ext e1).set r1 i)
/-- a, b = x, y -/
def sPar (i j : Nat) (ml : EM (List D)) : SM := fun env ah => (ml env ah).thenS env fun ds ah1 => match ds with
  | [x, y] => .nx ((env.set i (some x)).set j (some y)) ah1
  | _ => .stuck
end
end HA

/-! HA9: what is walked, for, while, list comprehensions. -/
namespace HA
open PySem PySem.Spec PyProof.Rows L2

/-- what is walked: its items; the lists that must stand as they stood -/
structure Itm where
  items : List D
  guard : List (Nat × List D)
def Itm.okIn (t : Itm) (ah : AH) : Bool := t.guard.all fun p => decide (listAt ah p.1 = some p.2)
def ItOk (K : PySem.W.Frag) (μ : List Addr) (H : Hp) (t : Itm) (J : It) : Prop := ∀ (i : Nat) μ' H' ah', Ext K μ H μ' H' → Sim K μ' H' ah' → t.okIn ah' = true →
  (t.items.length ≤ i → J.stop i H') ∧ ∀ d, t.items[i]? = some d → J.go i H' ∧ ∀ x H'', J.yld i H' x H'' → Ext K μ' H' μ' H'' ∧ Sim K μ' H'' ah' ∧ Rep K μ' H'' d x
def RI (K : PySem.W.Frag) : Rel Itm It := ⟨fun _ μ H t J => ItOk K μ H t J, fun _ h => h⟩
theorem ItOk.ext {K : PySem.W.Frag} {μ μ1 : List Addr} {H H1 : Hp} {t : Itm} {J : It} (h : ItOk K μ H t J) (e : Ext K μ H μ1 H1) : ItOk K μ1 H1 t J := fun i μ' H' ah' e' => h i μ' H' ah' (e.trans e')
def PF (X : Cx) (W : WX) (tg iter : Expr) (mi : EM Itm) : Prop := PI X tg iter (tG X.K (RI X.K) W mi)
theorem PI.weak {X : Cx} {tg iter : Expr} {w w' : TI} (h : PI X tg iter w) (k : ∀ σ H R, w' σ H R → w σ H R) : PI X tg iter w' := ⟨fun pins s σ H R I q => h.run pins s σ H R I (k σ H R q)⟩
section
variable {X : Cx} {W : WX} {k : Nat} {e : Expr} {tg : Expr} {es : List Expr} {m : EM D} {ml : EM (List D)} {pos : Pos}
theorem itl_ok {K : PySem.W.Frag} {μ : List Addr} {H : Hp} {a : Addr} {ds : List D} {t : Itm} (ht : t.items = ds) (h : ∀ μ' H' ah', Ext K μ H μ' H' → Sim K μ' H' ah' → t.okIn ah' = true → ∃ vs, SqL K H' a vs ∧ Reps K μ' H' ds vs) : ItOk K μ H t (Itl K a) := by
  intro i μ' H' ah' e S o
  obtain ⟨vs, q, r⟩ := h μ' H' ah' e S o
  subst ht
  refine ⟨fun hl => ⟨vs, q, by rw [← r.length]; exact hl⟩, fun d ed => ?_⟩
  obtain ⟨v, ev, rv⟩ := r.get ed
  refine ⟨⟨vs, v, q, ev⟩, fun x H'' y => ?_⟩
  obtain ⟨eH, y⟩ := y
  subst eH
  have z := y vs q
  rw [ev] at z; cases z
  exact ⟨Ext.refl, S, rv⟩
theorem itt_ok {K : PySem.W.Frag} {μ : List Addr} {H : Hp} {a : Addr} {ds : List D} {vs : List V} (q : SqT K H a vs) (r : Reps K μ H ds vs) : ItOk K μ H ⟨ds, []⟩ (Itt K a) := by
  intro i μ' H' ah' e S o
  have q := e.tup a vs q
  have r := r.ext e
  refine ⟨fun hl => ⟨vs, q, by rw [← r.length]; exact hl⟩, fun d ed => ?_⟩
  obtain ⟨v, ev, rv⟩ := r.get ed
  refine ⟨⟨vs, v, q, ev⟩, fun x H'' y => ?_⟩
  obtain ⟨eH, y⟩ := y
  subst eH
  have z := y vs q
  rw [ev] at z; cases z
  exact ⟨Ext.refl, S, rv⟩
/-- a new list, walked -/
def iNew (m : EM (List D)) : EM Itm := e1 m fun ds ah => .ok ⟨ds, []⟩ ah
theorem pf_l (h : PL X W e ml) : PF X W tg e (iNew ml) := by
  refine PI.weak (pi_list h) fun σ H R ⟨μ, env, ah, he, hs, hp⟩ => ?_
  refine ⟨μ, env, ah, he, hs, hp.bind fun ds ah1 μ1 x H1 e1 s1 r1 p1 => ?_⟩
  obtain ⟨a, vs, rfl, _, q, hm, r⟩ := r1
  refine ⟨a, rfl, ⟨vs, SqL.of q⟩, Post.ok1 (R := RI X.K) p1 s1 ?_⟩
  exact itl_ok rfl fun μ' H' ah' e S _ => ⟨vs, SqL.of (e.keep a _ hm q), r.ext e⟩
/-- a tuple or a list of ours, walked -/
def iVal (d : D) (ah : AH) : Res Itm := match d with
  | .tup ds => .ok ⟨ds, []⟩ ah
  | .ref n => match listAt ah n with
    | some ds => .ok ⟨ds, [(n, ds)]⟩ ah
    | none => .stuck
  | _ => .stuck
theorem pf_d (h : PD X W e m) : PF X W tg e (e1 m iVal) := by
  have two : PI X tg e (fun σ H R => iTup X.K (tG X.K (RD X.K) W m) σ H R) := pi_tup h
  have one : PI X tg e (fun σ H R => iList X.K (tG X.K (RD X.K) W m) σ H R) := pi_list h
  have both : PI X tg e (fun σ H R => iTup X.K (tG X.K (RD X.K) W m) σ H R ∨ iList X.K (tG X.K (RD X.K) W m) σ H R) := ⟨fun pins s σ H R I q => q.elim (two.run pins s σ H R I) (one.run pins s σ H R I)⟩
  refine PI.weak both fun σ H R ⟨μ, env, ah, he, hs, hp⟩ => ?_
  cases q : m env ah with
  | stuck => unfold e1 at hp; rw [q] at hp; exact hp.elim
  | exn c fs ah1 =>
    left
    unfold e1 at hp; rw [q] at hp
    exact ⟨μ, env, ah, he, hs, by rw [q]; exact hp⟩
  | ok d ah1 =>
    unfold e1 at hp; rw [q] at hp
    cases d with
    | tup ds =>
      left
      refine ⟨μ, env, ah, he, hs, ?_⟩
      rw [q]
      intro μ1 x H1 e1 s1 r1
      obtain ⟨a, vs, rfl, q2, r2⟩ := d_tup (show Rep X.K μ1 H1 (.tup ds) x from r1)
      exact ⟨a, rfl, ⟨vs, q2⟩, Post.ok1 (R := RI X.K) (Post.ext e1 hp) s1 (itt_ok q2 r2)⟩
    | ref n =>
      right
      refine ⟨μ, env, ah, he, hs, ?_⟩
      rw [q]
      intro μ1 x H1 e1 s1 r1
      obtain ⟨a, ea, rfl⟩ := d_ref (show Rep X.K μ1 H1 (.ref n) x from r1)
      unfold iVal at hp
      rw [Res.bind_ok] at hp
      dsimp only at hp
      split at hp
      · rename_i ds el
        obtain ⟨b, vs, eb, q2, r2⟩ := s1.list el
        rw [ea] at eb; cases eb
        refine ⟨a, rfl, ⟨vs, q2⟩, Post.ok1 (R := RI X.K) (Post.ext e1 hp) s1 ?_⟩
        refine itl_ok rfl fun μ' H' ah' e S o => ?_
        have z : listAt ah' n = some ds := by
          simp only [Itm.okIn, List.all_cons, List.all_nil, Bool.and_true, decide_eq_true_eq] at o
          exact o
        obtain ⟨b, ws, eb, q3, r3⟩ := S.list z
        rw [pre_get e.pre ea] at eb; cases eb
        exact ⟨ws, q3, r3⟩
      · exact hp.elim
    | _ => exact hp.elim
/-- range(n), range(a, b) -/
def iRange1 (d : D) (ah : AH) : Res Itm := match d with
  | .int j => if -(2 ^ 62) ≤ j ∧ j < 2 ^ 62 then .ok ⟨(List.range j.toNat).map fun (i : Nat) => D.int i, []⟩ ah else .stuck
  | _ => .stuck
def iRange2 (d f : D) (ah : AH) : Res Itm := match d, f with
  | .int i, .int j => if -(2 ^ 62) ≤ i ∧ i < 2 ^ 62 ∧ -(2 ^ 62) ≤ j ∧ j < 2 ^ 62 then .ok ⟨(List.range (j - i).toNat).map fun (n : Nat) => D.int (i + n), []⟩ ah else .stuck
  | _, _ => .stuck
theorem itr_ok {K : PySem.W.Frag} {μ : List Addr} {H : Hp} {lo : Int} {n : Nat} {f : Nat → D} (hf : ∀ i, f i = .int (lo + i)) : ItOk K μ H ⟨(List.range n).map f, []⟩ (Itr lo n) := by
  intro i μ' H' ah' e S o
  refine ⟨fun hl => (show n ≤ i by simpa using hl), fun d ed => ?_⟩
  rw [List.getElem?_map] at ed
  have hi : i < n := by
    cases q : (List.range n)[i]? with
    | none => rw [q] at ed; cases ed
    | some j => have := (List.getElem?_eq_some_iff.mp q).1; simpa using this
  refine ⟨hi, fun x H'' y => ?_⟩
  obtain ⟨eH, ex⟩ := y
  subst eH ex
  rw [List.getElem?_range hi, Option.map_some, hf] at ed
  cases ed
  exact ⟨Ext.refl, S, by simp only [Rep]⟩
theorem pf_range1 {a : Expr} {p : Pos} {ma : EM D} (hg : Gl X "range") (hm : X.mg "range" = none) (ha : PD X W a ma) (hs : starEach [a] X.env = [(false, eval a X.env)] := by rfl) : PF X W tg (.Call (.Name "range" p) [a] [] pos) (e1 ma iRange1) := by
  refine PI.weak (pi_range1 hg hm (pa_cons ha pa_nil hs) hs) fun σ H R ⟨μ, env, ah, he, hs, hp⟩ => ?_
  refine ⟨μ, env, ah, he, hs, hp.bind fun d ah1 μ1 x H1 e1 s1 r1 p1 => ?_⟩
  unfold iRange1 at p1
  split at p1
  · rename_i j
    split at p1
    · rename_i hl
      rw [d_int (show Rep X.K μ1 H1 (.int j) x from r1)]
      exact ⟨j, rfl, hl.1, hl.2, Post.ok1 (R := RI X.K) p1 s1 (itr_ok fun i => by rw [Int.zero_add])⟩
    · exact p1.elim
  · exact p1.elim
theorem pf_range2 {a b : Expr} {p : Pos} {ma mb : EM D} (hg : Gl X "range") (hm : X.mg "range" = none) (ha : PD X W a ma) (hb : PD X W b mb) (hs : starEach [a, b] X.env = [(false, eval a X.env), (false, eval b X.env)] := by rfl) (hs2 : starEach [b] X.env = [(false, eval b X.env)] := by rfl) : PF X W tg (.Call (.Name "range" p) [a, b] [] pos) (e2 ma mb iRange2) := by
  refine PI.weak (pi_range2 hg hm (pa_cons ha (pa_cons hb pa_nil hs2) (by rw [hs, hs2])) hs hs2) fun σ H R ⟨μ, env, ah, he, hs, hp⟩ => ?_
  refine ⟨μ, env, ah, he, hs, hp.bind fun d ah1 μ1 x H1 e1 s1 r1 p1 => ?_⟩
  refine tG_next he e1 s1 (p1.bind fun d2 ah2 μ2 y H2 e2 s2 r2 p2 => ?_)
  unfold iRange2 at p2
  split at p2
  · rename_i i j
    split at p2
    · rename_i hl
      rw [d_int (Rep.ext (show Rep X.K μ1 H1 (.int i) x from r1) e2), d_int (show Rep X.K μ2 H2 (.int j) y from r2)]
      exact ⟨i, j, rfl, hl, Post.ok1 (R := RI X.K) p2 s2 (itr_ok fun i => rfl)⟩
    · exact p2.elim
  · exact p2.elim

/-! ### for -/
def forLoop (t : Itm) (tm : TM) (body : SM) : List D → Env → AH → SRes
  | [], env, ah => if t.okIn ah = true then .nx env ah else .stuck
  | d :: ds, env, ah => if t.okIn ah = true then match tm d env ah with
    | some env1 => match body env1 ah with
      | .nx e a => forLoop t tm body ds e a
      | .ct e a => forLoop t tm body ds e a
      | .bk e a => .nx e a
      | r => r
    | none => .stuck else .stuck
def sFor (mi : EM Itm) (tm : TM) (body : SM) : SM := fun env ah => (mi env ah).thenS env fun t ah1 => forLoop t tm body t.items env ah1
theorem pz_for {iter : Expr} {body : List Stmt} {mi : EM Itm} {tm : TM} {ts : List Nat} {mb : SM} (hp : PassesOwn (model X.prog X.w) X.A X.env X.xe) (hc : X.calm = true) (hi : PF X W tg iter mi) (hg : PT1 X tg ts tm) (hb : PZs X W body mb)
    (hs : ∀ x, foldedSetIterable iter X.env x = pure x := by intro _; rfl) : PZ X W (.For tg iter body [] pos) (sFor mi tm mb) := by
  refine PS.weak (ps_for hp hc hi hg hb hs) fun D σ H ⟨μ, env, ah, he, hs, hp⟩ => ?_
  refine ⟨μ, env, ah, he, hs, PostS.bind hp he fun t ah1 μ1 J H1 e1 s1 r1 p1 => ?_⟩
  have ok1 : ItOk X.K μ1 H1 t J := r1
  refine ⟨fun i n σ' H' => ∃ μ' env' ah', Ext X.K μ1 H1 μ' H' ∧ Sim X.K μ' H' ah' ∧ EnvRel X.K μ' H' env' σ' ∧ PostS X.K W D μ' H' (forLoop t tm mb (t.items.drop i) env' ah') ∧ i + n = t.items.length, ⟨t.items.length, μ1, env, ah1, Ext.refl, s1, he.ext e1, by rw [List.drop_zero]; exact p1, by omega⟩, ?_⟩
  rintro i n σ' H' ⟨μ', env', ah', ex, S, er, po, hn⟩
  by_cases hi : i < t.items.length
  · have ed : t.items[i]? = some t.items[i] := List.getElem?_eq_getElem hi
    rw [List.drop_eq_getElem_cons hi] at po
    unfold forLoop at po
    split at po
    · rename_i okb
      obtain ⟨_, ok2⟩ := ok1 i μ' H' ah' ex S okb
      obtain ⟨go, yl⟩ := ok2 _ ed
      refine .inr ⟨go, _, fun σ2 H2 h => ⟨n - 1, by omega, h⟩, fun x H'' y => ?_⟩
      obtain ⟨ex2, S2, rx⟩ := yl x H'' y
      split at po
      · rename_i env1 et
        refine ⟨μ', env', ah', _, env1, er.ext ex2, S2, rx, et, fun σ3 he3 _ => ⟨μ', env1, ah', he3, S2, ?_⟩⟩
        have fin : ∀ {μ5 : List Addr} {H5 : Hp} {σ5 : L2.St} {e5 : Env} {a5 : AH}, Ext X.K μ' H'' μ5 H5 → Sim X.K μ5 H5 a5 → EnvRel X.K μ5 H5 e5 σ5 → PostS X.K W D μ' H' (forLoop t tm mb (t.items.drop (i + 1)) e5 a5) →
            ∃ μ' env' ah', Ext X.K μ1 H1 μ' H5 ∧ Sim X.K μ' H5 ah' ∧ EnvRel X.K μ' H5 env' σ5 ∧ PostS X.K W D μ' H5 (forLoop t tm mb (t.items.drop (i + 1)) env' ah') ∧ i + 1 + (n - 1) = t.items.length := fun x5 s5 r5 p5 =>
          ⟨_, _, _, (ex.trans ex2).trans x5, s5, r5, PostS.ext (ex2.trans x5) p5, by omega⟩
        cases q : mb env1 ah' with
        | nx e5 a5 => rw [q] at po; exact fun μ5 σ5 H5 x5 s5 r5 => fin x5 s5 r5 po
        | ct e5 a5 => rw [q] at po; exact fun μ5 σ5 H5 x5 s5 r5 => fin x5 s5 r5 po
        | bk e5 a5 => rw [q] at po; exact fun μ5 σ5 H5 x5 s5 r5 => po μ5 σ5 H5 (ex2.trans x5) s5 r5
        | rt d5 a5 => rw [q] at po; exact fun μ5 v5 H5 x5 s5 r5 => po μ5 v5 H5 (ex2.trans x5) s5 r5
        | exn c5 f5 e5 a5 => rw [q] at po; exact fun μ5 σ5 H5 od x5 s5 r5 z5 => po μ5 σ5 H5 od (ex2.trans x5) s5 r5 z5
        | stuck => rw [q] at po; exact po
      · exact po.elim
    · exact po.elim
  · have e0 : t.items.drop i = [] := List.drop_eq_nil_of_le (by omega)
    rw [e0] at po
    unfold forLoop at po
    split at po
    · rename_i okb
      exact .inl ⟨(ok1 i μ' H' ah' ex S okb).1 (by omega), post_next po S er⟩
    · exact po.elim

/-! ### while, by a bound of turns that the mirror is given -/
def whLoop (c : EM Bool) (body : SM) : Nat → Env → AH → SRes
  | 0, _, _ => .stuck
  | n + 1, env, ah => (c env ah).thenS env fun b ah1 => if b = true then match body env ah1 with
      | .nx e a => whLoop c body n e a
      | .ct e a => whLoop c body n e a
      | .bk e a => .nx e a
      | r => r else .nx env ah1
theorem pz_while {c : Expr} {body : List Stmt} {mc : EM Bool} {mb : SM} (N : Nat) (hp : PassesOwn (model X.prog X.w) X.A X.env X.xe) (hc : PB X W c mc) (hb : PZs X W body mb) : PZ X W (.While c body [] pos) (whLoop mc mb N) := by
  refine PS.weak (ps_while hp hc hb) fun D σ H ⟨μ, env, ah, he, hs, hp⟩ => ?_
  refine ⟨fun n σ' H' => ∃ μ' env' ah', Ext X.K μ H μ' H' ∧ Sim X.K μ' H' ah' ∧ EnvRel X.K μ' H' env' σ' ∧ PostS X.K W D μ' H' (whLoop mc mb n env' ah'), ⟨N, μ, env, ah, Ext.refl, hs, he, hp⟩, ?_⟩
  rintro n σ' H' ⟨μ', env', ah', ex, S, er, po⟩
  cases n with
  | zero => exact po.elim
  | succ n =>
    unfold whLoop at po
    refine ⟨μ', env', ah', er, S, PostS.bind po er fun b ah1 μ1 x H1 e1 s1 r1 p1 => ?_⟩
    cases (show b = x from r1)
    cases b with
    | false => exact post_next p1 s1 (er.ext e1)
    | true =>
      refine ⟨_, fun σ2 H2 h => ⟨n, by omega, h⟩, μ1, env', ah1, er.ext e1, s1, ?_⟩
      rw [if_pos rfl] at p1
      have fin : ∀ {μ5 : List Addr} {H5 : Hp} {σ5 : L2.St} {e5 : Env} {a5 : AH}, Ext X.K μ1 H1 μ5 H5 → Sim X.K μ5 H5 a5 → EnvRel X.K μ5 H5 e5 σ5 → PostS X.K W D μ1 H1 (whLoop mc mb n e5 a5) →
          ∃ μ' env' ah', Ext X.K μ H μ' H5 ∧ Sim X.K μ' H5 ah' ∧ EnvRel X.K μ' H5 env' σ5 ∧ PostS X.K W D μ' H5 (whLoop mc mb n env' ah') := fun x5 s5 r5 p5 => ⟨_, _, _, (ex.trans e1).trans x5, s5, r5, PostS.ext x5 p5⟩
      cases q : mb env' ah1 with
      | nx e5 a5 => rw [q] at p1; exact fun μ5 σ5 H5 x5 s5 r5 => fin x5 s5 r5 p1
      | ct e5 a5 => rw [q] at p1; exact fun μ5 σ5 H5 x5 s5 r5 => fin x5 s5 r5 p1
      | bk e5 a5 => rw [q] at p1; exact p1
      | rt d5 a5 => rw [q] at p1; exact p1
      | exn c5 f5 e5 a5 => rw [q] at p1; exact p1
      | stuck => rw [q] at p1; exact p1
end
end HA

/-! HA10: list comprehensions (one clause). -/
namespace HA
open PySem PySem.Spec PyProof.Rows L2

/-- nothing is raised within a comprehension -/
def W0 : WX := fun _ _ _ _ => False
def wipeE (env : Env) : List Nat → Env
  | [] => env
  | v :: vs => (wipeE env vs).set v none
theorem wipe_rel {K : PySem.W.Frag} {μ : List Addr} {H : Hp} {env : Env} {σ : L2.St} (h : EnvRel K μ H env σ) : ∀ vs, EnvRel K μ H (wipeE env vs) (wipe σ vs)
  | [] => h
  | v :: vs => by
    have q := wipe_rel h vs
    refine ⟨by simp [wipeE, wipe, q.1], fun j d e => ?_⟩
    unfold wipeE at e
    unfold wipe
    by_cases hj : v = j
    · subst hj
      have hl : v < (wipeE env vs).length := by
        have := (List.getElem?_eq_some_iff.mp e).1
        simpa using this
      rw [List.getElem?_set_self hl] at e
      cases e
    · rw [List.getElem?_set_ne hj] at e
      obtain ⟨w, x, y⟩ := q.2 j d e
      exact ⟨w, by rw [List.getElem?_set_ne hj]; exact x, y⟩
theorem wipe_at (σ : L2.St) : ∀ (vs : List Nat) (j : Nat), (wipe σ vs)[j]? = if j ∈ vs ∧ j < σ.length then some none else σ[j]?
  | [], j => by simp [wipe]
  | v :: vs, j => by
    unfold wipe
    by_cases hj : v = j
    · subst hj
      by_cases hl : v < σ.length
      · rw [List.getElem?_set_self (by rw [wipe_length]; exact hl)]; simp [hl]
      · rw [List.getElem?_eq_none (by rw [List.length_set, wipe_length]; omega)]
        simp [hl]
    · rw [List.getElem?_set_ne hj, wipe_at σ vs j]
      have : j ∈ v :: vs ↔ j ∈ vs := by
        rw [List.mem_cons]
        exact ⟨fun h => h.elim (fun z => absurd z.symm hj) id, .inr⟩
      simp only [this]
/-- a target within the wiped slots -/
theorem wipe_but {ts vs : List Nat} {σ σ' : L2.St} (h : But ts σ σ') (hs : ∀ j ∈ ts, j ∈ vs) : wipe σ' vs = wipe σ vs := by
  apply List.ext_getElem?
  intro j
  rw [wipe_at, wipe_at, h.1]
  by_cases hj : j ∈ vs ∧ j < σ.length
  · rw [if_pos hj, if_pos hj]
  · rw [if_neg hj, if_neg hj]
    by_cases hm : j ∈ ts
    · have : ¬ j < σ.length := fun z => hj ⟨hs j hm, z⟩
      rw [List.getElem?_eq_none (by rw [h.1]; omega), List.getElem?_eq_none (by omega)]
    · exact h.2 j hm
theorem wipe_wipe (σ : L2.St) (vs : List Nat) : wipe (wipe σ vs) vs = wipe σ vs := by
  apply List.ext_getElem?
  intro j
  rw [wipe_at, wipe_at, wipe_length]
  split
  · rfl
  · rfl
/-- the new list grows, that is no object of ours -/
theorem Sim.foreign {K : PySem.W.Frag} {μ : List Addr} {H : Hp} {ah : AH} (S : Sim K μ H ah) {p : Addr} {u : HO} {vs : List V} (hm : p ∉ μ.tail) (hp : H p = some (.lst vs)) : Sim K μ (upd H p u) ah := by
  have mu : Mut (H p) := by rw [hp]; trivial
  refine ⟨S.len, S.nd, fun n a o e1 e2 => ?_, S.pos, S.ro0⟩
  refine (S.ok n a o e1 e2).mono (List.prefix_refl _) (TExt.mut mu) (fun q => ?_) fun ob v z => ?_
  · refine upd_ne fun z => ?_
    subst z
    have hn : n ≠ 0 := fun z => by
      have := (S.ro0 n o e2).mpr z
      rw [q] at this; cases this
    obtain ⟨k, rfl⟩ : ∃ k, n = k + 1 := ⟨n - 1, by omega⟩
    exact hm (List.mem_of_getElem? (i := k) (by rw [List.getElem?_tail]; exact e1))
  · rw [upd_ne fun w => by subst w; rw [hp] at z; cases z]; exact z
theorem Ext.foreign {K : PySem.W.Frag} {μ μ1 : List Addr} {H H1 : Hp} {p : Addr} {u : HO} {vs : List V} (e : Ext K μ H μ1 H1) (h0 : H p = none) (hp : H1 p = some (.lst vs)) : Ext K μ H μ1 (upd H1 p u) where
  pre := e.pre
  tup := e.tup.trans (TExt.mut (by rw [hp]; trivial))
  new := e.new
  keep := fun a o hm h => by
    rw [upd_ne (fun z => by subst z; rw [h0] at h; cases h)]
    exact e.keep a o hm h
  there := fun a h => e.there a (there_upd a h)

def lcLoop (t : Itm) (tm : TM) (test : EM Bool) (elt : EM D) (vs : List Nat) (env : Env) : List D → List D → AH → Res (List D)
  | [], acc, ah => if t.okIn ah = true then .ok acc ah else .stuck
  | d :: ds, acc, ah => if t.okIn ah = true ∧ acc.length < line then match tm d (wipeE env vs) ah with
    | some env1 => match test env1 ah with
      | .ok true ah1 => match elt env1 ah1 with
        | .ok y ah2 => lcLoop t tm test elt vs env ds (acc ++ [y]) ah2
        | _ => .stuck
      | .ok false ah1 => lcLoop t tm test elt vs env ds acc ah1
      | _ => .stuck
    | none => .stuck else .stuck
def lLc (mi : EM Itm) (tm : TM) (test : EM Bool) (elt : EM D) (vs : List Nat) : EM (List D) := fun env ah => (mi env ah).bind fun t ah1 => lcLoop t tm test elt vs env t.items [] ah1
section
variable {X : Cx} {W : WX}
def PTsD (X : Cx) (W : WX) (ifs : List Expr) (m : EM Bool) : Prop := PTs X ifs (tG X.K RB W m)
def bYes : EM Bool := fun _ ah => .ok true ah
theorem PTs.weak {ifs : List Expr} {t t' : TT} (h : PTs X ifs t) (k : ∀ σ H Q, t' σ H Q → t σ H Q) : PTs X ifs t' := ⟨fun pins s σ H Q I q => h.run pins s σ H Q I (k σ H Q q)⟩
theorem ptsd_nil : PTsD X W [] bYes := PTs.weak pts_nil fun σ H Q ⟨μ, env, ah, he, hs, hp⟩ => Post.ok1 (R := RB) hp hs rfl
theorem ptsd_one {c : Expr} {m : EM Bool} (h : PB X W c m) : PTsD X W [c] m := pts_one h
theorem Post.only {β γ : Type} {K : PySem.W.Frag} {R : Rel β γ} {Wx : Value → Option Addr → Hp → Prop} {μ : List Addr} {H : Hp} {Q : γ → Hp → Prop} {r : Res β} {d : β} {ah : AH} (e : r = .ok d ah) (h : ∀ μ' x H', Ext K μ H μ' H' → Sim K μ' H' ah → R.r H μ' H' d x → Q x H') : Post K R Wx μ H Q r := by rw [e]; exact h
theorem lc_step {σ : L2.St} {H : Hp} {Q : VK} {mi : EM Itm} {ts vs : List Nat} {tm : TM} {mt : EM Bool} {me : EM D} (hts : ∀ j ∈ ts, j ∈ vs) (h : tG X.K (RL X.K) W (lLc mi tm mt me vs) σ H Q) :
    tLc (tG X.K (RI X.K) W mi) (tGt X.K ts tm) (tG X.K RB W0 mt) (tG X.K (RD X.K) W0 me) vs σ H Q := by
  obtain ⟨μ, env, ah, he, hs, hp⟩ := h
  refine ⟨μ, env, ah, he, hs, hp.bind0 fun t ah1 μ1 J H1 e1 s1 r1 p1 => ?_⟩
  have ok1 : ItOk X.K μ1 H1 t J := r1
  intro p np
  have p1 := Post.ext e1 p1
  have h0 : H p = none := e1.there p np
  refine ⟨fun i n H' => ∃ μ' ah' acc avs, Ext X.K μ1 H1 μ' H' ∧ Sim X.K μ' H' ah' ∧ H' p = some (.lst avs) ∧ p ∉ μ'.tail ∧ Reps X.K μ' H' acc avs ∧ Post X.K (RL X.K) (fun c d H' => W c d σ H') μ1 H1 Q (lcLoop t tm mt me vs env (t.items.drop i) acc ah') ∧ i + n = t.items.length,
    ⟨t.items.length, μ1, ah1, [], [], Ext.other np, s1.other np, upd_same, s1.free np, Reps.nil, by rw [List.drop_zero]; exact p1, by omega⟩, ?_⟩
  rintro i n H' ⟨μ', ah', acc, avs, ex, S, hD, hm, ra, po, hn⟩
  have wf : ∀ {μ5 : List Addr} {H5 : Hp}, Ext X.K μ' H' μ5 H5 → H5 p = some (.lst avs) ∧ p ∉ μ5.tail := fun {μ5 H5} x5 => by
    refine ⟨x5.keep p _ hm hD, fun z => ?_⟩
    rcases x5.new p z with w | w
    · exact hm w
    · rw [hD] at w; cases w
  by_cases hi : i < t.items.length
  · have ed : t.items[i]? = some t.items[i] := List.getElem?_eq_getElem hi
    rw [List.drop_eq_getElem_cons hi] at po
    unfold lcLoop at po
    split at po
    · rename_i okb
      obtain ⟨go, yl⟩ := (ok1 i μ' H' ah' ex S okb.1).2 _ ed
      refine .inr ⟨go, _, fun H2 h => ⟨n - 1, by omega, h⟩, fun x H'' y => ?_⟩
      obtain ⟨ex2, S2, rx⟩ := yl x H'' y
      split at po
      · rename_i env1 et
        refine ⟨μ', wipeE env vs, ah', _, env1, (wipe_rel (he.ext (e1.trans (ex.trans ex2))) vs), S2, rx, et, fun σ2 he2 b2 => ?_⟩
        refine ⟨by rw [wipe_but b2 hts, wipe_wipe], ?_⟩
        have nxt : ∀ {μ5 : List Addr} {H5 : Hp} {a5 : AH}, Ext X.K μ' H'' μ5 H5 → Sim X.K μ5 H5 a5 → Post X.K (RL X.K) (fun c d H' => W c d σ H') μ1 H1 Q (lcLoop t tm mt me vs env (t.items.drop (i + 1)) acc a5) →
            ∃ μ' ah' acc avs, Ext X.K μ1 H1 μ' H5 ∧ Sim X.K μ' H5 ah' ∧ H5 p = some (.lst avs) ∧ p ∉ μ'.tail ∧ Reps X.K μ' H5 acc avs ∧ Post X.K (RL X.K) (fun c d H' => W c d σ H') μ1 H1 Q (lcLoop t tm mt me vs env (t.items.drop (i + 1)) acc ah') ∧ i + 1 + (n - 1) = t.items.length := fun {μ5 H5 a5} x5 s5 p5 =>
          let ⟨w1, w2⟩ := wf (ex2.trans x5)
          ⟨μ5, a5, acc, avs, (ex.trans ex2).trans x5, s5, w1, w2, ra.ext (ex2.trans x5), p5, by omega⟩
        cases qt : mt env1 ah' with
        | ok b ah2 =>
          rw [qt] at po
          cases b with
          | false =>
            refine ⟨μ', env1, ah', he2, S2, Post.only qt fun μ3 b3 H3 x3 s3 r3 => ?_⟩
            cases (show false = b3 from r3)
            rw [if_neg Bool.false_ne_true]
            exact nxt x3 s3 po
          | true =>
            refine ⟨μ', env1, ah', he2, S2, Post.only qt fun μ3 b3 H3 x3 s3 r3 => ?_⟩
            cases (show true = b3 from r3)
            rw [if_pos rfl]
            dsimp only at po
            cases qe : me env1 ah2 with
            | ok y ah3 =>
              rw [qe] at po
              refine ⟨μ3, env1, ah2, he2.ext x3, s3, Post.only qe fun μ4 y4 H4 x4 s4 r4 => ?_⟩
              obtain ⟨w1, w2⟩ := wf ((ex2.trans x3).trans x4)
              have ry : Rep X.K μ4 H4 y y4 := r4
              have ra4 := ra.ext ((ex2.trans x3).trans x4)
              refine ⟨avs, w1, Nat.lt_of_lt_of_le (by rw [← ra.length]; exact okb.2) (line_le (Nat.le_refl _)), μ4, ah3, acc ++ [y], avs ++ [y4], Ext.foreign (((ex.trans ex2).trans x3).trans x4) np w1, s4.foreign w2 w1, upd_same, w2, ?_, po, by omega⟩
              have tx : TExt X.K H4 (upd H4 p (.lst (avs ++ [y4]))) := TExt.mut (by rw [w1]; trivial)
              exact Reps.append (Reps.mono (List.prefix_refl _) tx _ _ ra4) (Reps.cons (Rep.mono (List.prefix_refl _) tx _ _ ry) Reps.nil)
            | exn c fs a3 => rw [qe] at po; exact po.elim
            | stuck => rw [qe] at po; exact po.elim
        | exn c fs a3 => rw [qt] at po; exact po.elim
        | stuck => rw [qt] at po; exact po.elim
      · exact po.elim
    · exact po.elim
  · have ez : t.items.drop i = [] := List.drop_eq_nil_of_le (by omega)
    rw [ez] at po
    unfold lcLoop at po
    split at po
    · rename_i okb
      refine .inl ⟨(ok1 i μ' H' ah' ex S okb).1 (by omega), ?_⟩
      exact po μ' _ H' ex S ⟨p, avs, rfl, np, hD, hm, ra⟩
    · exact po.elim
variable {elt tg iter : Expr} {ifs : List Expr} {scope : Scope} {own : List (Str × Nat)} {pos : Pos} {mi : EM Itm} {tm : TM} {ts : List Nat} {mt : EM Bool} {me : EM D}
theorem pl_lc (hc : X.calm = true) (hN : X.N.Nodup) (hi : PF X W tg iter mi) (ok : BlkOk X.N X.env.scope scope own) (hts : ∀ j ∈ ts, j ∈ own.map (·.2))
    (hg : ∀ (s : Shared) (H : Hp) (C : Addr) (cl : List (Str × Addr)) (fp : List Addr), PT1 (X.blk s H scope (compEnvC scope cl C X.env) fp) tg ts tm) (ht : ∀ (s : Shared) (H : Hp) (C : Addr) (cl : List (Str × Addr)) (fp : List Addr), PTsD (X.blk s H scope (compEnvC scope cl C X.env) fp) W0 ifs mt)
    (he : ∀ (s : Shared) (H : Hp) (C : Addr) (cl : List (Str × Addr)) (fp : List Addr), PD (X.blk s H scope (compEnvC scope cl C X.env) fp) W0 elt me) (hs : ∀ x, foldedSetIterable iter X.env x = pure x := by intro _; rfl) :
    PL X W (.ListComp elt [⟨tg, iter, ifs, 0⟩] scope pos) (lLc mi tm mt me (own.map (·.2))) :=
  PE.weak (pe_lc (g := tGt X.K ts tm) (tt := tG X.K RB W0 mt) (te := tG X.K (RD X.K) W0 me) hc hN hi ok hg ht he hs) fun _ _ _ q => lc_step hts q
/-- name = [..] -/
theorem pz_setLc {i : Nat} {y : Str} {py spos : Pos} (hc : X.calm = true) (hN : X.N.Nodup) (hy : X.N[i]? = some y) (hyl : X.env.scope.names.lookup y = some .local)
    (hsw : swapsWith (.ListComp elt [⟨tg, iter, ifs, 0⟩] scope pos) (some (.Name y py)) spos.line X.env = pure true) (hi : PF X W tg iter mi) (ok : BlkOk X.N X.env.scope scope own) (hts : ∀ j ∈ ts, j ∈ own.map (·.2))
    (hg : ∀ (s : Shared) (H : Hp) (C : Addr) (cl : List (Str × Addr)) (fp : List Addr), PT1 (X.blk s H scope (compEnvC scope cl C X.env) fp) tg ts tm) (ht : ∀ (s : Shared) (H : Hp) (C : Addr) (cl : List (Str × Addr)) (fp : List Addr), PTsD (X.blk s H scope (compEnvC scope cl C X.env) fp) W0 ifs mt)
    (he : ∀ (s : Shared) (H : Hp) (C : Addr) (cl : List (Str × Addr)) (fp : List Addr), PD (X.blk s H scope (compEnvC scope cl C X.env) fp) W0 elt me) (hs : ∀ x, foldedSetIterable iter X.env x = pure x := by intro _; rfl) :
    PZ X W (.Assign [.Name y py] (.ListComp elt [⟨tg, iter, ifs, 0⟩] scope pos) spos) (sAsg (eNew (lLc mi tm mt me (own.map (·.2)))) (gSet i)) := by
  refine PS.weak (ps_setLc (g := tGt X.K ts tm) (tt := tG X.K RB W0 mt) (te := tG X.K (RD X.K) W0 me) hc hN hy hyl hsw hi ok hg ht he hs) fun D σ H q => ?_
  obtain ⟨μ, env, ah, he, hs, hp⟩ := q
  refine lc_step hts ?_
  refine ⟨μ, env, ah, he, hs, ?_⟩
  have z : PostS X.K W D μ H (((lLc mi tm mt me (own.map (·.2))) env ah).thenS env fun ds ah1 => .nx (env.set i (some (.ref ah1.length))) (ah1 ++ [.lst ds])) := by
    unfold sAsg eNew e1 at hp
    cases q : (lLc mi tm mt me (own.map (·.2))) env ah with
    | ok ds ah1 => rw [q] at hp; exact hp
    | exn c fs ah1 => rw [q] at hp; exact hp
    | stuck => rw [q] at hp; exact hp
  cases q : (lLc mi tm mt me (own.map (·.2))) env ah with
  | ok ds ah1 =>
    rw [q] at z
    intro μ1 x H1 e1 s1 r1
    obtain ⟨a, vs, rfl, h0, ha, hm, r⟩ := r1
    refine z (μ1 ++ [a]) _ H1 (e1.adopt h0 s1.mpos) (s1.adopt rfl hm ⟨vs, ha, Reps.mono (List.prefix_append _ _) TExt.refl ds vs r⟩) ?_
    refine EnvRel.set (he.ext (e1.adopt h0 s1.mpos)) ?_ i
    simp only [Rep]
    exact ⟨a, by rw [← s1.len]; simp, rfl⟩
  | exn c fs ah1 => rw [q] at z; exact fun μ' H' od e' s' x => z μ' σ H' od e' s' (he.ext e') x
  | stuck => rw [q] at z; exact z
end
end HA

/-! HA10b: what a call leaves: objects that nobody can reach any more are dropped. -/
namespace HA
open PySem PySem.Spec PyProof.Rows L2

def AObj.part1 : AObj → Nat × List D × List (Key × D)
  | .lst ds => (0, ds, [])
  | .ro ds => (1, ds, [])
  | .dK kvs => (2, [], kvs)
  | .dT _ => (3, [], [])
  | .ins _ _ => (4, [], [])
def AObj.part2 : AObj → List (List Key × D) × Addr × List (Str × D)
  | .dT kvs => (kvs, 0, [])
  | .ins C fs => ([], C, fs)
  | _ => ([], 0, [])
instance : DecidableEq AObj := fun a b => decidable_of_iff (a.part1 = b.part1 ∧ a.part2 = b.part2) (by cases a <;> cases b <;> simp [AObj.part1, AObj.part2])
mutual
def D.und (n : Nat) : D → Bool
  | .ref m => decide (m < n)
  | .tup ds => D.unds n ds
  | _ => true
def D.unds (n : Nat) : List D → Bool
  | [] => true
  | d :: ds => D.und n d && D.unds n ds
end
theorem unds_all {n : Nat} : ∀ (ds : List D), D.unds n ds = ds.all (D.und n)
  | [] => rfl
  | d :: ds => by simp only [D.unds, List.all_cons, unds_all ds]
def AObj.und (n : Nat) : AObj → Bool
  | .lst ds => D.unds n ds
  | .ro ds => D.unds n ds
  | .dK kvs => D.unds n (kvs.map (·.2))
  | .dT kvs => D.unds n (kvs.map (·.2))
  | .ins _ fs => D.unds n (fs.map (·.2))
/-- the old objects hold nothing new -/
def sound (ah ah' : AH) : Bool := decide (ah'.take ah.length = ah) || (ah'.take ah.length).all (AObj.und ah.length)
def fin (ah : AH) (d : D) (ah' : AH) : Res D :=
  if ah'.length ≤ ah.length then .ok d ah' else if sound ah ah' = true then
    if d.und ah.length = true then .ok d (ah'.take ah.length) else match d with
      | .ref m => match ah'[m]? with
        | some o => if o.und ah.length = true then .ok (.ref ah.length) (ah'.take ah.length ++ [o]) else .ok d ah'
        | none => .ok d ah'
      | _ => .ok d ah'
  else .ok d ah'
def fsUnd (n : Nat) (fs : Option (List (Str × D))) : Bool := match fs with
  | none => true
  | some l => D.unds n (l.map (·.2))
def finX (ah : AH) (fs : Option (List (Str × D))) (ah' : AH) : AH := if ah'.length ≤ ah.length then ah' else if sound ah ah' = true ∧ fsUnd ah.length fs = true then ah'.take ah.length else ah'
section
variable {K : PySem.W.Frag} {μ μ' : List Addr} {H H' : Hp}
mutual
theorem Rep.cut {n : Nat} : ∀ (d : D) (v : V), d.und n = true → Rep K μ H d v → Rep K (μ.take n) H d v
  | .non, _, _, h => by simp only [Rep] at h ⊢; exact h
  | .bl b, _, _, h => by simp only [Rep] at h ⊢; exact h
  | .int i, _, _, h => by simp only [Rep] at h ⊢; exact h
  | .str x, _, _, h => by simp only [Rep] at h ⊢; exact h
  | .ref m, _, b, h => by
    simp only [Rep] at h ⊢
    obtain ⟨a, e, z⟩ := h
    simp only [D.und, decide_eq_true_eq] at b
    exact ⟨a, by rw [List.getElem?_take_of_lt b]; exact e, z⟩
  | .cst w, _, _, h => by simp only [Rep] at h ⊢; exact h
  | .tup ds, _, b, h => by
    simp only [Rep] at h ⊢
    obtain ⟨a, vs, e, q, r⟩ := h
    exact ⟨a, vs, e, q, Reps.cutB ds vs b r⟩
theorem Reps.cutB {n : Nat} : ∀ (ds : List D) (vs : List V), D.unds n ds = true → Reps K μ H ds vs → Reps K (μ.take n) H ds vs
  | [], _, _, h => by simp only [Reps] at h ⊢; exact h
  | d :: ds, _, b, h => by
    simp only [Reps] at h ⊢
    obtain ⟨w, ws, e, r, t⟩ := h
    simp only [D.unds, Bool.and_eq_true] at b
    exact ⟨w, ws, e, Rep.cut d w b.1 r, Reps.cutB ds ws b.2 t⟩
end
mutual
theorem Rep.und : ∀ (d : D) (v : V), Rep K μ H d v → d.und μ.length = true
  | .non, _, _ => rfl
  | .bl b, _, _ => rfl
  | .int i, _, _ => rfl
  | .str x, _, _ => rfl
  | .ref m, _, h => by
    simp only [Rep] at h
    obtain ⟨a, e, z⟩ := h
    simp only [D.und, decide_eq_true_eq]
    exact (List.getElem?_eq_some_iff.mp e).1
  | .cst w, _, _ => rfl
  | .tup ds, _, h => by
    simp only [Rep] at h
    obtain ⟨a, vs, e, q, r⟩ := h
    exact Reps.unds ds vs r
theorem Reps.unds : ∀ (ds : List D) (vs : List V), Reps K μ H ds vs → D.unds μ.length ds = true
  | [], _, _ => rfl
  | d :: ds, _, h => by
    simp only [Reps] at h
    obtain ⟨w, ws, e, r, t⟩ := h
    simp only [D.unds, Bool.and_eq_true]
    exact ⟨Rep.und d w r, Reps.unds ds ws t⟩
end
theorem OOk.cut {n : Nat} {a : Addr} : ∀ {o : AObj}, o.und n = true → OOk K μ H a o → OOk K (μ.take n) H a o
  | .lst ds, b, ⟨vs, e, r⟩ => ⟨vs, e, Reps.cutB _ _ b r⟩
  | .ro ds, b, ⟨vs, e, r⟩ => ⟨vs, e, Reps.cutB _ _ b r⟩
  | .dK ds, b, ⟨vs, e, k, r⟩ => ⟨vs, e, k, Reps.cutB _ _ b r⟩
  | .dT ds, b, ⟨vs, e, k, r⟩ => ⟨vs, e, k, Reps.cutB _ _ b r⟩
  | .ins C ds, b, ⟨dx, vs, e, k, r⟩ => ⟨dx, vs, e, k, Reps.cutB _ _ b r⟩
theorem OOk.und {a : Addr} : ∀ {o : AObj}, OOk K μ H a o → o.und μ.length = true
  | .lst ds, ⟨vs, e, r⟩ => Reps.unds _ _ r
  | .ro ds, ⟨vs, e, r⟩ => Reps.unds _ _ r
  | .dK ds, ⟨vs, e, k, r⟩ => Reps.unds _ _ r
  | .dT ds, ⟨vs, e, k, r⟩ => Reps.unds _ _ r
  | .ins C ds, ⟨dx, vs, e, k, r⟩ => Reps.unds _ _ r
theorem Sim.below {ah : AH} (S : Sim K μ H ah) : ah.all (AObj.und ah.length) = true := by
  rw [List.all_eq_true]
  intro o ho
  obtain ⟨n, hn⟩ := List.getElem?_of_mem ho
  obtain ⟨a, _, r⟩ := S.at hn
  rw [← S.len]
  exact r.und
theorem Sim.cut {ah : AH} (S : Sim K μ H ah) {n : Nat} (h0 : 0 < n) (hb : (ah.take n).all (AObj.und n) = true) : Sim K (μ.take n) H (ah.take n) := by
  have gm : ∀ {i : Nat} {a : Addr}, (μ.take n)[i]? = some a → i < n ∧ μ[i]? = some a := fun {i a} e => by
    have : i < n := by
      have := (List.getElem?_eq_some_iff.mp e).1
      rw [List.length_take] at this
      omega
    rw [List.getElem?_take_of_lt this] at e
    exact ⟨this, e⟩
  have ga : ∀ {i : Nat} {a : AObj}, (ah.take n)[i]? = some a → i < n ∧ ah[i]? = some a := fun {i a} e => by
    have : i < n := by
      have := (List.getElem?_eq_some_iff.mp e).1
      rw [List.length_take] at this
      omega
    rw [List.getElem?_take_of_lt this] at e
    exact ⟨this, e⟩
  refine ⟨by rw [List.length_take, List.length_take, S.len], fun i j a o o' e1 e2 e3 e4 => S.nd i j a o o' (gm e1).2 (gm e2).2 (ga e3).2 (ga e4).2, fun i a o e1 e2 => ?_, ?_, fun i o e => S.ro0 i o (ga e).2⟩
  · exact (S.ok i a o (gm e1).2 (ga e2).2).cut (by rw [List.all_eq_true] at hb; exact hb o (List.mem_of_getElem? e2))
  · rw [List.length_take]
    have := S.pos
    omega
theorem Ext.take (e : Ext K μ H μ' H') : μ'.take μ.length = μ := by
  obtain ⟨t, rfl⟩ := e.pre
  simp
theorem Ext.back (e : Ext K μ H μ' H') : Ext K μ H μ H' := ⟨List.prefix_refl _, e.tup, fun _ h => .inl h, e.keep, e.there⟩
theorem Sim.old {ah ah' : AH} (S : Sim K μ H ah) (e : Ext K μ H μ' H') (S' : Sim K μ' H' ah') (hb : sound ah ah' = true) : Sim K μ H' (ah'.take ah.length) := by
  have := S'.cut (n := ah.length) S.pos (by
    unfold sound at hb
    rw [Bool.or_eq_true] at hb
    rcases hb with h | h
    · rw [decide_eq_true_eq] at h; rw [h]; exact S.below
    · exact h)
  rw [← S.len, e.take] at this
  rw [← S.len]
  exact this
theorem fin_run {Wx : Value → Option Addr → Hp → Prop} {Q : VK} {ah ah' : AH} {d : D} {v : V} (S : Sim K μ H ah) (e : Ext K μ H μ' H') (S' : Sim K μ' H' ah') (r : Rep K μ' H' d v) (hp : Post K (RD K) Wx μ H Q (fin ah d ah')) : Q v H' := by
  unfold fin at hp
  have all : Post K (RD K) Wx μ H Q (.ok d ah') → Q v H' := fun hp => hp μ' v H' e S' r
  split at hp
  · exact all hp
  · split at hp
    · rename_i hs
      split at hp
      · rename_i hd
        have := Rep.cut d v hd r
        rw [← S.len, e.take] at this
        exact hp μ v H' e.back (S.old e S' hs) this
      · rename_i hd
        split at hp
        · rename_i m
          split at hp
          · rename_i o eo
            split at hp
            · rename_i hb
              obtain ⟨a, ea, rfl⟩ := d_ref r
              have hm : ah.length ≤ m := by simpa [D.und] using hd
              have hr : o.isRo = false := by
                cases q : o.isRo with
                | false => rfl
                | true => have := (S'.ro0 m o eo).mp q; have := S.pos; omega
              have ha : a ∉ μ.tail := fun z => by
                obtain ⟨j, hj⟩ := List.getElem?_of_mem z
                rw [List.getElem?_tail] at hj
                have lj : j + 1 < ah.length := by have := (List.getElem?_eq_some_iff.mp hj).1; rw [S.len] at this; exact this
                have hj' := pre_get e.pre hj
                have : j + 1 < ah'.length := by have := (List.getElem?_eq_some_iff.mp hj').1; rw [S'.len] at this; exact this
                have eo' : ah'[j + 1]? = some ah'[j + 1] := List.getElem?_eq_getElem this
                have r' : (ah'[j + 1]).isRo = false := by
                  cases q : (ah'[j + 1]).isRo with
                  | false => rfl
                  | true => have := (S'.ro0 _ _ eo').mp q; omega
                have := S'.nd m (j + 1) a o _ ea hj' eo eo' hr r'
                omega
              have at' : a ∈ μ'.tail := by
                obtain ⟨k, rfl⟩ : ∃ k, m = k + 1 := ⟨m - 1, by have := S.pos; omega⟩
                exact List.mem_of_getElem? (i := k) (by rw [List.getElem?_tail]; exact ea)
              have h0 : H a = none := (e.new a at').resolve_left ha
              have ok := (S'.ok m a o ea eo).cut (n := ah.length) hb
              rw [← S.len, e.take] at ok
              have ok2 : OOk K (μ ++ [a]) H' a o := ok.mono (List.prefix_append _ _) TExt.refl (fun _ => rfl) fun _ _ z => z
              refine hp (μ ++ [a]) (.ref a) H' (e.back.adopt h0 S.mpos) ((S.old e S' hs).adopt hr ha ok2) ?_
              show Rep K (μ ++ [a]) H' (.ref ah.length) (.ref a)
              simp only [Rep]
              exact ⟨a, by rw [← S.len]; simp, rfl⟩
            · exact all hp
          · exact all hp
        · exact all hp
    · exact all hp
theorem finX_run {Wx : Value → Option Addr → Hp → Prop} {Q : VK} {ah ah' : AH} {c : Addr} {fs : Option (List (Str × D))} {od : Option Addr} (S : Sim K μ H ah) (e : Ext K μ H μ' H') (S' : Sim K μ' H' ah') (r : ExnOk K μ' H' fs od) (hp : Post K (RD K) Wx μ H Q (.exn c fs (finX ah fs ah'))) : Wx (.ref c) od H' := by
  unfold finX at hp
  have all : Post K (RD K) Wx μ H Q (.exn c fs ah') → Wx (.ref c) od H' := fun hp => hp μ' H' od e S' r
  split at hp
  · exact all hp
  · split at hp
    · rename_i hs
      refine hp μ H' od e.back (S.old e S' hs.1) ?_
      cases fs with
      | none => exact r
      | some l =>
        obtain ⟨d, fws, h1, h2, h3, h4⟩ := r
        refine ⟨d, fws, h1, h2, h3, ?_⟩
        have := Reps.cutB (n := ah.length) _ _ hs.2 h4
        rw [← S.len, e.take] at this
        exact this
    · exact all hp
end
/-! what it comes to -/
theorem fin_same (ah : AH) (d : D) : fin ah d ah = .ok d ah := by unfold fin; rw [if_pos (Nat.le_refl _)]
theorem fin_len {ah ah' : AH} (d : D) (h : ah'.length = ah.length) : fin ah d ah' = .ok d ah' := by unfold fin; rw [if_pos (Nat.le_of_eq h)]
theorem fin_app (ah junk : AH) {d : D} (h : d.und ah.length = true) : fin ah d (ah ++ junk) = .ok d ah := by
  unfold fin
  cases junk with
  | nil => simp
  | cons x xs =>
    rw [if_neg (by simp), if_pos (by simp [sound]), if_pos h]
    simp
theorem fin_new (ah junk : AH) {m : Nat} {o : AObj} (hm : ah.length ≤ m) (ho : (ah ++ junk)[m]? = some o) (h : o.und ah.length = true) : fin ah (.ref m) (ah ++ junk) = .ok (.ref ah.length) (ah ++ [o]) := by
  unfold fin
  have : m < (ah ++ junk).length := (List.getElem?_eq_some_iff.mp ho).1
  rw [if_neg (by omega), if_pos (by simp [sound]), if_neg (by simp [D.und]; omega)]
  simp only [ho, h, if_true]
  simp
end HA

/-! HA11: defs by their mirrors; calls. -/
namespace HA
open PySem PySem.Spec PyProof.Rows L2

/-- the mirror of a def from its body's: n slots -/
def fnM (n ar : Nat) (mb : SM) (ds : List D) (ah : AH) : Res D := if ds.length = ar then match mb (ds.map some ++ List.replicate (n - ds.length) none) ah with
  | .nx _ ah' => fin ah .non ah'
  | .rt d ah' => fin ah d ah'
  | .exn c fs _ ah' => .exn c fs (finX ah fs ah')
  | _ => .stuck else .stuck
/-- .. with all that it has made -/
def fnR (n ar : Nat) (mb : SM) (ds : List D) (ah : AH) : Res D := if ds.length = ar then match mb (ds.map some ++ List.replicate (n - ds.length) none) ah with
  | .nx _ ah' => .ok .non ah'
  | .rt d ah' => .ok d ah'
  | .exn c fs _ ah' => .exn c fs ah'
  | _ => .stuck else .stuck
/-- what a def at f promises: its mirror's answer -/
structure FnG (P : Program) (w : World) (K : PySem.W.Frag) (mg : Str → Option Value) (base : Heap) (k : Nat) (f : Addr) (fd : FuncData) (ps : List Str) (m : List D → AH → Res D) : Prop where
  run : ∀ (A : Around) (lo : List PySem.Env) (s : Shared) (H : Hp) (args : Args) (us : List Value) (vs : List V) (Q : VK) (E : XK) (μ : List Addr) (ds : List D) (ah : AH), Rm k A → Env0 P w K mg base A lo s H → BindsTo s fd args (ps.zip us) → Vals vs us → vs.length = ps.length →
    Sim K μ H ah → Reps K μ H ds vs → Post K (RD K) (fun c d H' => E c d H') μ H Q (m ds ah) → codeAny (model P w) A (.call (.ref f) args) (CR (L2.CX P w) lo P w H s Q E) s
section
variable {P : Program} {w : World} {K : PySem.W.Frag} {mg : Str → Option Value} {base : Heap}
theorem FnG.mono {j k : Nat} {f : Addr} {fd : FuncData} {ps : List Str} {m : List D → AH → Res D} (F : FnG P w K mg base j f fd ps m) (h : j ≤ k) : FnG P w K mg base k f fd ps m :=
  ⟨fun A lo s H args us vs Q E μ ds ah hr => F.run A lo s H args us vs Q E μ ds ah (hr.mono h)⟩
theorem rm_deeper {k : Nat} {A : Around} (r : Rm (k + 1) A) (env : PySem.Env) : Rm k (A.deeper env) := ⟨r.room.deeper env, r.gd⟩
/-- a def by its body -/
theorem fnG_R {x qual : Str} {st : Stmt} {f : Addr} {fd : FuncData} {N ps : List Str} {k : Nat} {mb : SM} (F : Fun K x qual st f fd) (S : FnScope N ps (defScope st))
    (body : ∀ (cdv : Value) (A : Around) (lo : List PySem.Env) (s : Shared) (H : Hp) (E : XK), Rm k (A.deeper (envOfC qual (defScope st) s.heap.objs.size f cdv)) → PZs (cxOf (L2.CX P w) P w K mg base N qual (defScope st) f cdv A lo s H E) (fun c d _ H' => E c d H') (defBody st) mb) :
    FnG P w K mg base (k + 1) f fd ps (fnR N.length ps.length mb) := by
  obtain ⟨oc, od, kV, doc, pm, an, cdv, ct, osl, rfl, lk, hcd⟩ := F.ex
  refine ⟨fun A lo s H args us vs Q E μ ds ah hr e0 hb rv hl hS rd hp => ?_⟩
  have KX : K.In s.heap := e0.mod.kin.keeps fun b o e => (e0.bs b o e).1
  have nl : s.heap.NoLimit := e0.mod.nolimit.keeps fun b o e => (e0.bs b o e).1
  have par : ∀ y ∈ ps.zip us, (defScope st).names.lookup y.1 = some .local ∨ ((defScope st).names.lookup y.1 = some .cell ∧ ((cellsFrom (s.heap.objs.size + 1) (defScope st).names []).lookup y.1).isSome = true) := fun p hp => by
    rcases S.par p.1 (List.of_mem_zip hp).1 with q | q
    · exact .inl q
    · exact .inr ⟨q, PySem.W.cellsFrom_some _ _ _ (.inl q)⟩
  refine codeAny_call_function hr.room.depth (KX _ _ lk) rfl S.co S.gen rfl (PySem.W.codeRec_of KX hcd) (hb _ _ _ _ ?_)
  refine wpAny_newFunctionEnv_cells S.kind par fun env he s1 x1 => ?_
  subst he
  refine ⟨nl.keeps x1.toInCall.keep, codeAny_func ?_⟩
  have I : Inv (cxOf (L2.CX P w) P w K mg base N qual (defScope st) f cdv A lo s H E) [] (L2.start N vs) H s1 := inv_start S hr.room.hd e0 hl rv x1
  have lds : ds.length = ps.length := rd.length.trans hl
  have hpl : ps.length ≤ N.length := by
    have z := congrArg List.length S.pre
    rw [List.length_take] at z
    omega
  have eS : EnvRel K μ H (ds.map some ++ List.replicate (N.length - ds.length) none) (L2.start N vs) := by
    unfold L2.start
    refine ⟨by simp only [List.length_append, List.length_map, List.length_replicate]; rw [lds, hl], fun i d e => ?_⟩
    by_cases hi : i < ds.length
    · rw [List.getElem?_append_left (by simpa using hi), List.getElem?_map] at e
      cases q : ds[i]? with
      | none => rw [q] at e; cases e
      | some z =>
        rw [q] at e; cases e
        obtain ⟨v, ev, r⟩ := rd.get q
        exact ⟨v, by rw [List.getElem?_append_left (by rw [List.length_map, ← rd.length]; exact hi), List.getElem?_map, ev]; rfl, r⟩
    · rw [List.getElem?_append_right (by simpa using hi), List.getElem?_replicate] at e
      split at e <;> cases e
  have fin : ∀ {σ' : L2.St} {H' : Hp} {s' : Shared} {v : V} {u : Value}, Inv (cxOf (L2.CX P w) P w K mg base N qual (defScope st) f cdv A lo s H E) [] σ' H' s' → RelV v u → Q v H' → CE lo P w H s Q u s' := fun {σ' H' s' v u} J r q => ⟨v, H', J.os, J.bare, J.base, J.hok, r, q⟩
  let DD : Ends := { nx := fun _ H' => Q .non H', rt := Q }
  have po : PostS K (fun c d _ H' => E c d H') DD μ H (mb (ds.map some ++ List.replicate (N.length - ds.length) none) ah) := by
    unfold fnR at hp
    rw [if_pos lds] at hp
    cases q : mb (ds.map some ++ List.replicate (N.length - ds.length) none) ah with
    | nx env' ah' => rw [q] at hp; exact fun μ' σ' H' e' s' _ => hp μ' .non H' e' s' r_non
    | rt d ah' => rw [q] at hp; exact fun μ' v H' e' s' r => hp μ' v H' e' s' r
    | bk env' ah' => rw [q] at hp; exact hp.elim
    | ct env' ah' => rw [q] at hp; exact hp.elim
    | exn c fs env' ah' => rw [q] at hp; exact fun μ' σ' H' od e' s' _ z => hp μ' H' od e' s' z
    | stuck => rw [q] at hp; exact hp.elim
  refine wpAny_mono ((body cdv A lo s H E (rm_deeper hr _)).run [] s1 (L2.start N vs) H DD I ⟨μ, _, ah, eS, hS, po⟩) (fun fl s' hs => ?_) fun e s' z => z
  cases fl with
  | ret u => obtain ⟨v, σ', H', J, r, q⟩ := hs; exact fin J r q
  | next => obtain ⟨σ', H', J, q⟩ := hs; exact fin (v := V.non) (u := Value.none) J rfl q
  | brk => obtain ⟨_, _, _, q⟩ := hs; exact q.elim
  | cont => obtain ⟨_, _, _, q⟩ := hs; exact q.elim
/-- a def by its body; what nobody can reach behind it is dropped -/
theorem fnG {x qual : Str} {st : Stmt} {f : Addr} {fd : FuncData} {N ps : List Str} {k : Nat} {mb : SM} (F : Fun K x qual st f fd) (S : FnScope N ps (defScope st))
    (body : ∀ (cdv : Value) (A : Around) (lo : List PySem.Env) (s : Shared) (H : Hp) (E : XK), Rm k (A.deeper (envOfC qual (defScope st) s.heap.objs.size f cdv)) → PZs (cxOf (L2.CX P w) P w K mg base N qual (defScope st) f cdv A lo s H E) (fun c d _ H' => E c d H') (defBody st) mb) :
    FnG P w K mg base (k + 1) f fd ps (fnM N.length ps.length mb) := by
  have G := fnG_R F S body
  refine ⟨fun A lo s H args us vs Q E μ ds ah hr e0 hb rv hl hS rd hp => G.run A lo s H args us vs Q E μ ds ah hr e0 hb rv hl hS rd ?_⟩
  unfold fnM at hp
  unfold fnR
  split at hp
  · rename_i h
    rw [if_pos h]
    cases q : mb (ds.map some ++ List.replicate (N.length - ds.length) none) ah with
    | nx env' ah' => rw [q] at hp; exact fun μ' v H' e' s' r => fin_run hS e' s' r hp
    | rt d ah' => rw [q] at hp; exact fun μ' v H' e' s' r => fin_run hS e' s' r hp
    | bk env' ah' => rw [q] at hp; exact hp.elim
    | ct env' ah' => rw [q] at hp; exact hp.elim
    | exn c fs env' ah' => rw [q] at hp; exact fun μ' H' od e' s' z => finX_run hS e' s' z hp
    | stuck => rw [q] at hp; exact hp.elim
  · exact hp.elim
end

/-! ### calls -/
section
variable {X : Cx} {W : WX} {k : Nat} {f : Addr} {fd : FuncData} {ps ks : List Str} {m : List D → AH → Res D} {x : Str} {p pos : Pos} {e : Expr} {es : List Expr} {ml mk : EM (List D)} {kws : List Keyword}
theorem run_G {pins : List (Addr × Obj)} {σ : L2.St} {H : Hp} {s : Shared} {Q : VK} {us : List Value} {vs : List V} {args : Args} {μ : List Addr} {ds : List D} {ah : AH} (F : FnG X.prog X.w X.K X.mg X.base k f fd ps m) (hr : Rm k X.A) (tk : Takes X W) (I : Inv X pins σ H s)
    (hb : BindsTo s fd args (ps.zip us)) (hl : vs.length = ps.length) (r : Vals vs us) (S : Sim X.K μ H ah) (rd : Reps X.K μ H ds vs) (hp : Post X.K (RD X.K) (fun c d H' => W c d σ H') μ H Q (m ds ah)) :
    codeAny (model X.prog X.w) X.A (.call (.ref f) args) (fun r s' => match r with
      | .ok (.ret u) => EP X pins σ Q u s'
      | .ok _ => False
      | .error e => X.xe e s') s := by
  refine codeAny_mono (F.run X.A X.stack s H args us vs Q (WE W σ) μ ds ah hr I.env0 hb r hl S rd hp) fun r s' hq => ?_
  cases r with
  | error e => exact passAt tk σ pins H s e s' I hq
  | ok fl =>
    cases fl with
    | ret u => exact I.after hq
    | next => exact hq
    | brk => exact hq
    | cont => exact hq
theorem call_G {pins : List (Addr × Obj)} {σ : L2.St} {H : Hp} {s : Shared} {Q : VK} {us : List Value} {vs : List V} {kw : List (Str × Value)} {us' : List Value} {μ : List Addr} {ds : List D} {ah : AH} (F : FnG X.prog X.w X.K X.mg X.base k f fd ps m) (hr : Rm k X.A) (tk : Takes X W) (I : Inv X pins σ H s)
    (hb : BindsTo s fd ⟨us', kw⟩ (ps.zip us)) (hl : vs.length = ps.length) (r : Vals vs us) (S : Sim X.K μ H ah) (rd : Reps X.K μ H ds vs) (hp : Post X.K (RD X.K) (fun c d H' => W c d σ H') μ H Q (m ds ah)) :
    wpAny (model X.prog X.w) X.A (call (.ref f) us' kw) (EP X pins σ Q) X.xe s := by
  refine wpAny_call (codeAny_mono (run_G F hr tk I hb hl r S rd hp) fun r s' hq => ?_)
  cases r with
  | error e => exact hq
  | ok fl =>
    cases fl with
    | ret u => exact hq
    | next => exact hq.elim
    | brk => exact hq.elim
    | cont => exact hq.elim
/-- how many values arguments have -/
def Many (n : Nat) (ml : EM (List D)) : Prop := ∀ env ah ds ah', ml env ah = .ok ds ah' → ds.length = n
theorem many_nil : Many 0 aNil := fun env ah ds ah' h => by cases h; rfl
theorem many_cons {n : Nat} {me : EM D} (h : Many n ml) : Many (n + 1) (aCons me ml) := fun env ah ds ah' e => by
  unfold aCons at e
  cases q : me env ah with
  | ok x a1 =>
    rw [q] at e
    cases q2 : ml env a1 with
    | ok xs a2 =>
      rw [Res.bind_ok, q2, Res.bind_ok] at e
      cases e
      rw [List.length_cons, h _ _ _ _ q2]
    | exn c fs a3 => rw [Res.bind_ok, q2] at e; cases e
    | stuck => rw [Res.bind_ok, q2] at e; cases e
  | exn c fs a4 => rw [q] at e; cases e
  | stuck => rw [q] at e; cases e
/-- the answer of arguments, with how many there are -/
theorem Post.many {K : PySem.W.Frag} {Wx : Value → Option Addr → Hp → Prop} {μ : List Addr} {H : Hp} {Q : List V → Hp → Prop} {env : Env} {ah : AH} {n : Nat} (hm : Many n ml) (h : Post K (RA K) Wx μ H (fun vs H' => vs.length = n → Q vs H') (ml env ah)) : Post K (RA K) Wx μ H Q (ml env ah) := by
  cases q : ml env ah with
  | ok ds a1 =>
    rw [q] at h
    exact fun μ' vs H' e s r => h μ' vs H' e s r (by rw [← Reps.length (show Reps K μ' H' ds vs from r)]; exact hm env ah ds a1 q)
  | exn c fs a1 => rw [q] at h; exact h
  | stuck => rw [q] at h; exact h
theorem pd_call (F : FnG X.prog X.w X.K X.mg X.base k f fd ps m) (hr : Rm k X.A) (hg : Gl X x) (hm : X.mg x = some (.ref f)) (hk : PySem.W.keepIn X.K (.ref f) = true) (hb : Binds X.K fd ps []) (tk : Takes X W) (ha : PAs X W (e :: es) ml) (hn : Many ps.length ml)
    (hdb : (x == ("__debug__" : Str)) = false := by decide) (he : starEach (e :: es) X.env = (false, eval e X.env) :: starEach es X.env := by rfl) (hpl : (backTo pos (starEach es X.env)).any (·.1) = false := by rfl) : PD X W (.Call (.Name x p) (e :: es) [] pos) (e1 ml m) := by
  refine ⟨fun pins s σ H Q I h => ?_⟩
  obtain ⟨μ, env, ah, hE, hs, hp⟩ := h
  refine wpAny_Call_Name_kw (ld_glob I hg hm ?_ hdb)
  refine PySem.W.callWith_K (h₀ := X.base) I.ok.mod.kin hk (thn (ha.run pos pins s σ H (fun vs H1 => vs.length = ps.length ∧ ∃ μ1 ah1 ds, Sim X.K μ1 H1 ah1 ∧ Reps X.K μ1 H1 ds vs ∧ Post X.K (RD X.K) (fun c d H' => W c d σ H') μ1 H1 Q (m ds ah1)) I
    ⟨μ, env, ah, hE, hs, Post.many hn (hp.bind fun ds ah1 μ1 vs H1 e1 s1 r1 p1 hl => ⟨hl, μ1, ah1, ds, s1, r1, p1⟩)⟩) fun us s1 hz => ?_) he hpl
  obtain ⟨vs, H1, I1, r, hl, μ1, ah1, ds, s1', rd, p1⟩ := hz
  refine ⟨I1.kIn, ?_⟩
  have b := hb s1 us I1.kIn (by rw [List.append_nil, ← r.length]; exact hl)
  rw [List.append_nil] at b
  exact call_G F hr tk I1 b hl r s1' rd p1
theorem pd_call0 (F : FnG X.prog X.w X.K X.mg X.base k f fd [] m) (hr : Rm k X.A) (hg : Gl X x) (hm : X.mg x = some (.ref f)) (hk : PySem.W.keepIn X.K (.ref f) = true) (hb : Binds X.K fd [] []) (tk : Takes X W) (hdb : (x == ("__debug__" : Str)) = false := by decide) : PD X W (.Call (.Name x p) [] [] pos) (fun _ ah => m [] ah) := by
  refine ⟨fun pins s σ H Q I h => ?_⟩
  obtain ⟨μ, env, ah, hE, hs, hp⟩ := h
  refine wpAny_Call_Name_kw (ld_glob I hg hm ?_ hdb)
  refine PySem.W.callWith_K0 I.kIn hk ?_
  have b := hb s [] I.kIn rfl
  exact call_G (us' := []) (kw := []) (us := []) (vs := []) F hr tk I b rfl .nil hs Reps.nil hp
end
end HA

/-! HA12: lists put together, compared with [], shown; dicts; methods of lists; keyword calls; pairs of targets. -/
namespace HA
open PySem PySem.Spec PyProof.Rows L2

/-- a tracked list: new, by its items, or one of ours -/
abbrev LT := Sum (List D) Nat
def RLT (K : PySem.W.Frag) : Rel LT V := ⟨fun _ μ H t v => match t with
  | .inl ds => ∃ a vs, v = .ref a ∧ H a = some (.lst vs) ∧ a ∉ μ.tail ∧ Reps K μ H ds vs
  | .inr n => Rep K μ H (.ref n) v, fun _ h => h⟩
def PLT (X : Cx) (W : WX) (e : Expr) (m : EM LT) : Prop := PE X e (tG X.K (RLT X.K) W m)
def ltOf (t : LT) (ah : AH) : Option (List D) := match t with
  | .inl ds => some ds
  | .inr n => match ah[n]? with
    | some (.lst ds) => some ds
    | _ => none
theorem rlt_ext {K : PySem.W.Frag} {μ μ1 : List Addr} {H H1 : Hp} {t : LT} {v : V} {H₀ H₁ : Hp} (h : (RLT K).r H₀ μ H t v) (e : Ext K μ H μ1 H1) : (RLT K).r H₁ μ1 H1 t v := by
  cases t with
  | inl ds =>
    obtain ⟨a, vs, ev, ha, hm, r⟩ := h
    refine ⟨a, vs, ev, e.keep a _ hm ha, fun z => ?_, r.ext e⟩
    rcases e.new a z with w | w
    · exact hm w
    · rw [ha] at w; cases w
  | inr n => exact Rep.ext (show Rep K μ H (.ref n) v from h) e
theorem rlt_at {K : PySem.W.Frag} {μ : List Addr} {H : Hp} {ah : AH} {t : LT} {v : V} {ds : List D} {H₀ : Hp} (S : Sim K μ H ah) (h : (RLT K).r H₀ μ H t v) (e : ltOf t ah = some ds) : ∃ a vs, v = .ref a ∧ H a = some (.lst vs) ∧ Reps K μ H ds vs := by
  cases t with
  | inl xs =>
    obtain ⟨a, vs, ev, ha, hm, r⟩ := h
    cases e
    exact ⟨a, vs, ev, ha, r⟩
  | inr n =>
    obtain ⟨a, ea, rfl⟩ := d_ref (show Rep K μ H (.ref n) v from h)
    unfold ltOf at e
    dsimp only at e
    split at e
    · rename_i xs q
      cases e
      obtain ⟨vs, h1, r⟩ := S.ok n a _ ea q
      exact ⟨a, vs, rfl, h1, r⟩
    · cases e
section
variable {X : Cx} {W : WX} {k : Nat} {e : Expr} {es : List Expr} {m : EM D} {ml : EM (List D)} {pos : Pos}
def tNew (m : EM (List D)) : EM LT := e1 m fun ds ah => .ok (.inl ds) ah
def tOur (m : EM D) : EM LT := e1 m fun d ah => match d with
  | .ref n => .ok (.inr n) ah
  | _ => .stuck
theorem plt_l (h : PL X W e ml) : PLT X W e (tNew ml) := by
  refine PE.weak h fun σ H Q ⟨μ, env, ah, he, hs, hp⟩ => ?_
  refine ⟨μ, env, ah, he, hs, hp.bind fun ds ah1 μ1 x H1 e1 s1 r1 p1 => ?_⟩
  obtain ⟨a, vs, rfl, _, ha, hm, r⟩ := r1
  exact Post.ok1 (R := RLT X.K) p1 s1 ⟨a, vs, rfl, ha, hm, r⟩
theorem plt_d (h : PD X W e m) : PLT X W e (tOur m) := by
  refine PE.weak h fun σ H Q ⟨μ, env, ah, he, hs, hp⟩ => ?_
  refine ⟨μ, env, ah, he, hs, hp.bind fun d ah1 μ1 x H1 e1 s1 r1 p1 => ?_⟩
  cases d with
  | ref n => exact Post.ok1 (R := RLT X.K) p1 s1 r1
  | _ => exact p1.elim
/-- xs + ys, lists: a new one -/
def lCat (x y : LT) (ah : AH) : Res (List D) := match ltOf x ah, ltOf y ah with
  | some xs, some ys => if xs.length + ys.length ≤ line then .ok (xs ++ ys) ah else .stuck
  | _, _ => .stuck
theorem pl_cat {a b : Expr} {ma mb : EM LT} (ha : PLT X W a ma) (hb : PLT X W b mb) : PL X W (.BinOp a .Add b pos) (e2 ma mb lCat) := by
  refine PE.weak (pe_op op_cat ha hb) fun σ H Q ⟨μ, env, ah, he, hs, hp⟩ => ?_
  refine ⟨μ, env, ah, he, hs, hp.bind0 fun t ah1 μ1 x H1 e1 s1 r1 p1 => ?_⟩
  have p1 := Post.ext e1 p1
  refine tG_next he e1 s1 (p1.bind fun u ah2 μ2 y H2 e2 s2 r2 p2 => ?_)
  unfold lCat at p2
  split at p2
  · rename_i xs ys q1 q2
    split at p2
    · rename_i hl
      obtain ⟨a, vs, rfl, hA, rA⟩ := rlt_at s2 (rlt_ext (H₁ := H) r1 e2) q1
      obtain ⟨b, ws, rfl, hB, rB⟩ := rlt_at s2 r2 q2
      exact ⟨a, b, vs, ws, rfl, rfl, hA, hB, line_le (by rw [← rA.length, ← rB.length]; exact hl), fun p np => Post.newL p2 s2 (rA.append rB) np⟩
    · exact p2.elim
  · exact p2.elim
/-- xs * k -/
def lRep (x : LT) (y : D) (ah : AH) : Res (List D) := match ltOf x ah, y with
  | some xs, .int k => if -(2 ^ 63) ≤ k ∧ k < 2 ^ 63 ∧ xs.length * k.toNat ≤ line then .ok (List.replicate k.toNat xs).flatten ah else .stuck
  | _, _ => .stuck
theorem reps_rep {K : PySem.W.Frag} {μ : List Addr} {H : Hp} {xs : List D} {vs : List V} (r : Reps K μ H xs vs) : ∀ n : Nat, Reps K μ H (List.replicate n xs).flatten (List.replicate n vs).flatten
  | 0 => Reps.nil
  | n + 1 => by rw [List.replicate_succ, List.replicate_succ, List.flatten_cons, List.flatten_cons]; exact r.append (reps_rep r n)
theorem pl_rep {a b : Expr} {ma : EM LT} {mb : EM D} (ha : PLT X W a ma) (hb : PD X W b mb) : PL X W (.BinOp a .Mult b pos) (e2 ma mb lRep) := by
  refine PE.weak (pe_op op_rep ha hb) fun σ H Q ⟨μ, env, ah, he, hs, hp⟩ => ?_
  refine ⟨μ, env, ah, he, hs, hp.bind0 fun t ah1 μ1 x H1 e1 s1 r1 p1 => ?_⟩
  have p1 := Post.ext e1 p1
  refine tG_next he e1 s1 (p1.bind fun u ah2 μ2 y H2 e2 s2 r2 p2 => ?_)
  unfold lRep at p2
  split at p2
  · rename_i xs k q1
    split at p2
    · rename_i hl
      obtain ⟨a, vs, rfl, hA, rA⟩ := rlt_at s2 (rlt_ext (H₁ := H) r1 e2) q1
      rw [d_int (show Rep X.K μ2 H2 (.int k) y from r2)]
      exact ⟨a, k, vs, rfl, rfl, hA, hl.1, hl.2.1, line_le (by rw [← rA.length]; exact hl.2.2), fun p np => Post.newL p2 s2 (reps_rep rA _) np⟩
    · exact p2.elim
  · exact p2.elim

/-! ### a list as a datum -/
theorem list_sr {pins : List (Addr × Obj)} {σ : L2.St} {μ : List Addr} {H : Hp} {s : Shared} {ah : AH} {f : Nat} {ds : List D} {ps : List PyData} {vs : List V} {a : Addr} (I : Inv X pins σ H s) (S : Sim X.K μ H ah) (q : SqL X.K H a vs) (r : Reps X.K μ H ds vs) (h : optAll (toP ah f) ds = some ps) : SR s.heap (.ref a) (.list ps) := by
  obtain ⟨its, rv, ⟨o, m, e1, e2, _, e3⟩, _⟩ := I.list q
  refine .list e1 e2 e3 (by rw [← rv.length, ← r.length]; exact optAll_length h) fun i u p x1 x2 => ?_
  have hi : i < ds.length := by rw [optAll_length h]; exact (List.getElem?_eq_some_iff.mp x2).1
  have x3 : ds[i]? = some ds[i] := List.getElem?_eq_getElem hi
  obtain ⟨v, x4, rv4⟩ := r.get x3
  obtain ⟨u', x5, ru⟩ := rv.get x4
  rw [show its.toArray.toList = its from by simp] at x1
  rw [x1] at x5; cases x5
  exact Inv.sr I S f _ v u p (optAll_get h x3 x2) rv4 ru
/-- repr of a list -/
def lRepr (ds : List D) (ah : AH) : Res D := match optAll (toP ah 62) ds with
  | some ps => if PyData.showable (.list ps) = true ∧ (PyData.shown (.list ps)).length ≤ line ∧ PyData.depth (.list ps) ≤ 63 then .ok (.str (PyData.shown (.list ps))) ah else .stuck
  | none => .stuck
theorem cs_repr (hr : Rm k X.A) : CallS X (RM X.K) (RD X.K) (.builtin "repr") lRepr := fun W => by
  intro pins s σ H xs us Q I rv h
  obtain ⟨μ, ah, ds, x, H₀, rfl, S, ⟨a, vs, rfl, q, r⟩, hp⟩ := h
  unfold lRepr at hp
  split at hp
  · rename_i ps e
    split at hp
    · rename_i hc
      obtain ⟨u, rfl, ru⟩ := vals1 rv
      cases ru
      have z := list_sr I S q r e
      refine SR.repr z hc.1 (line_le hc.2.1) hr.gd (by have := hr.u65; have := hc.2.2; omega) fun h' t tk kk => ?_
      exact ⟨.str _, H, I.kept kk, ⟨t, rfl⟩, Post.ok1 (R := RD X.K) hp S r_str⟩
    · exact hp.elim
  · exact hp.elim
/-- xs == [], xs != [] -/
def lNil (neg : Bool) (ds : List D) (ah : AH) : Res Bool := match ds with
  | [] => .ok (!neg) ah
  | _ => match optAll (toP ah 62) ds with
    | some ps => if SeqAt.shaped (.list ps) = true then .ok neg ah else .stuck
    | none => .stuck
theorem lNil_v {ds : List D} {ah ah' : AH} {neg b : Bool} (h : lNil neg ds ah = .ok b ah') : ah' = ah ∧ ∃ ps, optAll (toP ah 62) ds = some ps ∧ SeqAt.shaped (.list ps) = true ∧ b = (if neg then !PyData.eqv (.list ps) (.list []) else PyData.eqv (.list ps) (.list [])) := by
  unfold lNil at h
  split at h
  · cases h
    exact ⟨rfl, [], rfl, by decide +kernel, by cases neg <;> rfl⟩
  · rename_i d r
    split at h
    · rename_i ps e
      split at h
      · rename_i hs
        cases h
        refine ⟨rfl, ps, e, hs, ?_⟩
        cases ps with
        | nil =>
          have z := optAll_length e
          cases ds with
          | nil => exact absurd rfl r
          | cons _ _ => simp at z
        | cons p ps => cases neg <;> simp [PyData.eqv, PyData.eqvAll]
      · cases h
    · cases h
theorem nil_shaped : SeqAt.shaped (.list []) = true := by decide +kernel
/-- the comparison of a list with a new empty one -/
theorem op_nil (hu : X.A.units + 64 < cLine) (neg : Bool) : OpR X (compareOp (if neg then .NotEq else .Eq)) (fun x y H Q => ∃ a b vs μ ah ds ps, x = .ref a ∧ y = .ref b ∧ SqL X.K H a vs ∧ H b = some (.lst []) ∧ Sim X.K μ H ah ∧ Reps X.K μ H ds vs ∧ optAll (toP ah 62) ds = some ps ∧ SeqAt.shaped (.list ps) = true ∧
    Q (.bl (if neg then !PyData.eqv (.list ps) (.list []) else PyData.eqv (.list ps) (.list []))) H) := by
  intro pins s σ H x y v u Q I rx ry h
  obtain ⟨a, b, vs, μ, ah, ds, ps, rfl, rfl, q, hb, S, r, e, hs, hq⟩ := h
  cases rx
  cases ry
  obtain ⟨as, r1⟩ := (list_sr I S q r e).reads
  obtain ⟨bs, r2⟩ := (list_sr (f := 62) (ds := []) (ps := []) I S (SqL.of hb) Reps.nil rfl).reads
  cases neg with
  | false => exact SeqAt.compareEq_shaped r1 r2 hs nil_shaped hu ⟨.bl _, H, I, rfl, hq⟩
  | true => exact SeqAt.compareNe_shaped r1 r2 hs nil_shaped hu ⟨.bl _, H, I, rfl, hq⟩
def bNil (neg : Bool) (m : EM (List D)) : EM Bool := e1 m (lNil neg)
theorem nil_step {neg : Bool} {σ : L2.St} {H : Hp} {Q : V → Hp → Prop} {γ : Type} {R : Rel Bool γ} {Q' : γ → Hp → Prop} {c : γ → V} (hR : ∀ H₀ μ H b g, R.r H₀ μ H b g → True) (hu : X.A.units + 64 < cLine) (h : tG X.K RBV W (bNil neg ml) σ H Q) :
    tOp (fun x y H Q => ∃ a b vs μ ah ds ps, x = .ref a ∧ y = .ref b ∧ SqL X.K H a vs ∧ H b = some (.lst []) ∧ Sim X.K μ H ah ∧ Reps X.K μ H ds vs ∧ optAll (toP ah 62) ds = some ps ∧ SeqAt.shaped (.list ps) = true ∧
      Q (.bl (if neg then !PyData.eqv (.list ps) (.list []) else PyData.eqv (.list ps) (.list []))) H) (tG X.K (RM X.K) W ml) (tLst tNil) σ H Q := by
  obtain ⟨μ, env, ah, he, hs, hp⟩ := h
  refine ⟨μ, env, ah, he, hs, hp.bind fun ds ah1 μ1 x H1 e1 s1 r1 p1 => ?_⟩
  obtain ⟨a, vs, rfl, q, r⟩ := r1
  refine ⟨by decide, fun b nb => ?_⟩
  cases z : lNil neg ds ah1 with
  | ok c ah2 =>
    obtain ⟨rfl, ps, e, hsh, rfl⟩ := lNil_v z
    rw [z] at p1
    have ex : Ext X.K μ1 H1 μ1 (upd H1 b (.lst [])) := Ext.other nb
    have q2 : SqL X.K (upd H1 b (.lst [])) a vs := by
      rcases q with (q | ⟨o, q⟩) | q
      · exact .inl (.inl (by rw [upd_ne (ne_of_none q nb)]; exact q))
      · exact .inl (.inr ⟨o, by rw [upd_ne (ne_of_none q nb)]; exact q⟩)
      · exact .inr q
    exact ⟨a, b, vs, μ1, ah2, ds, ps, rfl, rfl, q2, upd_same, s1.other nb, r.ext ex, e, hsh, p1 μ1 _ _ ex (s1.other nb) rfl⟩
  | exn c fs a2 =>
    unfold lNil at z
    split at z
    · cases z
    · split at z
      · split at z <;> cases z
      · cases z
  | stuck => rw [z] at p1; exact p1.elim
theorem pb_nil {j1 : Pos} (hr : Rm k X.A) (ha : PM X W e ml) : PB X W (.Compare e [.Eq] [.List [] j1] pos) (bNil false ml) := by
  refine PT.weak (pt_cmpR (op_nil hr.u64 false) ha (pe_lst pa_nil) (nomark _)) fun σ H Q ⟨μ, env, ah, he, hs, hp⟩ => ?_
  exact nil_step (R := RB) (c := V.bl) (Q' := Q) (fun _ _ _ _ _ _ => trivial) hr.u64 ⟨μ, env, ah, he, hs, Post.bb hp⟩
theorem pb_notNil {j1 : Pos} (hr : Rm k X.A) (ha : PM X W e ml) : PB X W (.Compare e [.NotEq] [.List [] j1] pos) (bNil true ml) := by
  refine PT.weak (pt_cmpR (op_nil hr.u64 true) ha (pe_lst pa_nil) (nomark _)) fun σ H Q ⟨μ, env, ah, he, hs, hp⟩ => ?_
  exact nil_step (R := RB) (c := V.bl) (Q' := Q) (fun _ _ _ _ _ _ => trivial) hr.u64 ⟨μ, env, ah, he, hs, Post.bb hp⟩
theorem pd_nil {j1 : Pos} (hr : Rm k X.A) (ha : PM X W e ml) : PD X W (.Compare e [.Eq] [.List [] j1] pos) (eB (bNil false ml)) := by
  refine PE.weak (pe_cmpR (op_nil hr.u64 false) ha (pe_lst pa_nil) (nomark _)) fun σ H Q ⟨μ, env, ah, he, hs, hp⟩ => ?_
  exact nil_step (R := RB) (c := V.bl) (Q' := fun _ _ => True) (fun _ _ _ _ _ _ => trivial) hr.u64 ⟨μ, env, ah, he, hs, Post.bv hp⟩
theorem pd_notNil {j1 : Pos} (hr : Rm k X.A) (ha : PM X W e ml) : PD X W (.Compare e [.NotEq] [.List [] j1] pos) (eB (bNil true ml)) := by
  refine PE.weak (pe_cmpR (op_nil hr.u64 true) ha (pe_lst pa_nil) (nomark _)) fun σ H Q ⟨μ, env, ah, he, hs, hp⟩ => ?_
  exact nil_step (R := RB) (c := V.bl) (Q' := fun _ _ => True) (fun _ _ _ _ _ _ => trivial) hr.u64 ⟨μ, env, ah, he, hs, Post.bv hp⟩

end
end HA

/-! HA13: methods of lists, dicts, stores, keyword calls, pairs of targets. -/
namespace HA
open PySem PySem.Spec PyProof.Rows L2
section
variable {X : Cx} {W : WX} {k : Nat} {e : Expr} {es : List Expr} {m : EM D} {ml : EM (List D)} {pos : Pos}

/-! ### methods of lists -/
/-- a method by data: of the object d, with arguments -/
def MtD (X : Cx) (id : String) (f : D → List D → AH → Res D) : Prop := ∀ W, MtR X id (fun x vs H Q => ∃ μ ah d ds, Sim X.K μ H ah ∧ Rep X.K μ H d x ∧ Reps X.K μ H ds vs ∧ Post X.K (RD X.K) W μ H Q (f d ds ah))
theorem MtR.imp {id : String} {r r' : V → List V → Hp → VK → Prop} (h : MtR X id r) (k : ∀ x vs H Q, r' x vs H Q → r x vs H Q) : MtR X id r' := fun pins s σ H x xs v us Q I rx rv q => h pins s σ H x xs v us Q I rx rv (k x xs H Q q)
theorem put_lst {K : PySem.W.Frag} {Wx : Value → Option Addr → Hp → Prop} {μ : List Addr} {H : Hp} {Q : VK} {ah : AH} {n : Nat} {a : Addr} {xs ys : List D} {ws : List V} {d : D} {v : V} (S : Sim K μ H ah) (ea : μ[n]? = some a) (q : ah[n]? = some (.lst xs)) (r : Reps K μ H ys ws) (rd : Rep K μ H d v)
    (hp : Post K (RD K) Wx μ H Q (.ok d (ah.set n (.lst ys)))) : Q v (upd H a (.lst ws)) := by
  have hn : n ≠ 0 := fun z => by
    have := (S.ro0 n _ q).mpr z
    cases this
  have mu := (S.ok n a _ ea q).there rfl
  refine hp μ v _ (Ext.put ea hn mu) (S.put ea q rfl rfl fun ht => ⟨ws, upd_same, Reps.mono (List.prefix_refl _) ht _ _ r⟩) (Rep.ext rd (Ext.put ea hn mu))
theorem r_non' {K : PySem.W.Frag} {μ : List Addr} {H : Hp} : Rep K μ H .non .non := by simp only [Rep]
def mAppend (d : D) (ds : List D) (ah : AH) : Res D := match d, ds with
  | .ref n, [y] => match ah[n]? with
    | some (.lst xs) => if xs.length < line then .ok .non (ah.set n (.lst (xs ++ [y]))) else .stuck
    | _ => .stuck
  | _, _ => .stuck
theorem md_append : MtD X "list.append" mAppend := fun W => by
  refine MtR.imp mt_append fun x vs H Q ⟨μ, ah, d, ds, S, r1, r2, hp⟩ => ?_
  unfold mAppend at hp
  split at hp
  · rename_i n y
    obtain ⟨a, ea, rfl⟩ := d_ref r1
    obtain ⟨w, rfl, ry⟩ := reps1 r2
    split at hp
    · rename_i xs q
      split at hp
      · rename_i hl
        obtain ⟨vs, h1, r⟩ := S.ok n a _ ea q
        exact ⟨a, vs, w, rfl, rfl, h1, Nat.lt_of_lt_of_le (by rw [← r.length]; exact hl) (line_le (Nat.le_refl _)), put_lst S ea q (r.append (Reps.cons ry Reps.nil)) r_non' hp⟩
      · exact hp.elim
    · exact hp.elim
  · exact hp.elim
def mPop (d : D) (ds : List D) (ah : AH) : Res D := match d, ds with
  | .ref n, [] => match ah[n]? with
    | some (.lst xs) => match xs[xs.length - 1]? with
      | some y => .ok y (ah.set n (.lst xs.dropLast))
      | none => .stuck
    | _ => .stuck
  | .ref n, [.int i] => match ah[n]? with
    | some (.lst xs) => if -(2 ^ 63) ≤ i ∧ i < 2 ^ 63 then match seqIndex? i xs.length with
      | some j => match xs[j]? with
        | some y => .ok y (ah.set n (.lst (xs.eraseIdx j)))
        | none => .stuck
      | none => .stuck else .stuck
    | _ => .stuck
  | _, _ => .stuck
theorem MtR.or {id : String} {r r' : V → List V → Hp → VK → Prop} (h : MtR X id r) (h' : MtR X id r') : MtR X id (fun x vs H Q => r x vs H Q ∨ r' x vs H Q) := fun pins s σ H x xs v us Q I rx rv q => q.elim (h pins s σ H x xs v us Q I rx rv) (h' pins s σ H x xs v us Q I rx rv)
theorem md_pop : MtD X "list.pop" mPop := fun W => by
  refine MtR.imp (MtR.or mt_pop mt_popAt) fun x vs H Q ⟨μ, ah, d, ds, S, r1, r2, hp⟩ => ?_
  unfold mPop at hp
  split at hp
  · rename_i n
    obtain ⟨a, ea, rfl⟩ := d_ref r1
    simp only [Reps] at r2
    subst r2
    split at hp
    · rename_i xs q
      split at hp
      · rename_i y ey
        obtain ⟨vs, h1, r⟩ := S.ok n a _ ea q
        obtain ⟨w, ew, rw'⟩ := r.get ey
        exact .inl ⟨a, vs, w, rfl, rfl, h1, by rw [← r.length]; exact ew, put_lst S ea q r.dropLast rw' hp⟩
      · exact hp.elim
    · exact hp.elim
  · rename_i n i
    obtain ⟨a, ea, rfl⟩ := d_ref r1
    obtain ⟨w, rfl, ry⟩ := reps1 r2
    rw [d_int ry]
    split at hp
    · rename_i xs q
      split at hp
      · rename_i hl
        split at hp
        · rename_i j ej
          split at hp
          · rename_i y ey
            obtain ⟨vs, h1, r⟩ := S.ok n a _ ea q
            obtain ⟨u, eu, ru⟩ := r.get ey
            exact .inr ⟨a, vs, i, j, u, rfl, rfl, h1, hl.1, hl.2, by rw [← r.length]; exact ej, eu, put_lst S ea q (r.eraseIdx j) ru hp⟩
          · exact hp.elim
        · exact hp.elim
      · exact hp.elim
    · exact hp.elim
  · exact hp.elim
def mInsert (d : D) (ds : List D) (ah : AH) : Res D := match d, ds with
  | .ref n, [.int i, y] => match ah[n]? with
    | some (.lst xs) => if xs.length < line ∧ 0 ≤ i ∧ i < 2 ^ 63 then .ok .non (ah.set n (.lst (xs.take i.toNat ++ [y] ++ xs.drop i.toNat))) else .stuck
    | _ => .stuck
  | _, _ => .stuck
theorem md_insert : MtD X "list.insert" mInsert := fun W => by
  refine MtR.imp mt_insert fun x vs H Q ⟨μ, ah, d, ds, S, r1, r2, hp⟩ => ?_
  unfold mInsert at hp
  split at hp
  · rename_i n i y
    obtain ⟨a, ea, rfl⟩ := d_ref r1
    obtain ⟨v, w, rfl, ri, ry⟩ := reps2 r2
    rw [d_int ri]
    split at hp
    · rename_i xs q
      split at hp
      · rename_i hl
        obtain ⟨vs, h1, r⟩ := S.ok n a _ ea q
        exact ⟨a, vs, i, w, rfl, rfl, h1, Nat.lt_of_lt_of_le (by rw [← r.length]; exact hl.1) (line_le (Nat.le_refl _)), hl.2.1, hl.2.2, put_lst S ea q (((r.take _).append (Reps.cons ry Reps.nil)).append (r.drop _)) r_non' hp⟩
      · exact hp.elim
    · exact hp.elim
  · exact hp.elim
/-- o.m(..) of a list of ours -/
theorem list_ty {K : PySem.W.Frag} {μ : List Addr} {H : Hp} {ah : AH} {n : Nat} {v : V} {xs : List D} (S : Sim K μ H ah) (r : Rep K μ H (.ref n) v) (e : listAt ah n = some xs) : tyV K "list" v H := by
  obtain ⟨a, ea, rfl⟩ := d_ref r
  obtain ⟨b, vs, eb, q, _⟩ := S.list e
  rw [ea] at eb; cases eb
  exact .inl ⟨rfl, vs, q⟩
def isList (d : D) (ah : AH) : Bool := match d with
  | .ref n => (listAt ah n).isSome
  | _ => false
/-- the method of a list, its receiver looked at ahead of the arguments -/
def eMt (mo : EM D) (ml : EM (List D)) (f : D → List D → AH → Res D) : EM D := fun env ah => (mo env ah).bind fun d ah1 => if isList d ah1 = true then (ml env ah1).bind fun ds ah2 => f d ds ah2 else .stuck
variable {o : Expr} {mo : EM D} {name : Str} {apos cpos : Pos} {id : String} {f : D → List D → AH → Res D}
theorem pe_bmσ {T : String} {r : L2.St → V → List V → Hp → VK → Prop} {to : TE} {t : TA} (pa : PlainAttrs T) (slot : Slot T name id) (hty : typeOf (.builtin id) = pure (.type "method_descriptor")) (hm : ∀ σ, MtR X id (r σ)) (ho : PE X o to) (ha : PA X (e :: es) t)
    (hbase : attributeBase o name X.env (eval o X.env) = eval o X.env := by rfl)
    (hfew : ((backTo cpos (starEach (e :: es) X.env)).all (fun x => !x.1) && (backToKw cpos (keywordEach [] X.env)).all (fun x => x.1.isSome) && decide ((e :: es).length + ([] : List Keyword).length + (if ([] : List Keyword).isEmpty then 0 else 1) < 30)) = true := by rfl)
    (hline : (apos.endLine == cpos.line) = true := by rfl) (hs : starEach (e :: es) X.env = (false, eval e X.env) :: starEach es X.env := by rfl) (hplain : (backTo cpos (starEach es X.env)).any (·.1) = false := by rfl) :
    PE X (.Call (.Attribute o name apos) (e :: es) [] cpos) (fun σ H Q => tBM X.K T (r σ) to t σ H Q) :=
  ⟨fun pins s σ H Q I h => (pe_bm pa slot hty (hm σ) ho ha hbase hfew hline hs hplain).run pins s σ H Q I h⟩
theorem pe_bm0σ {T : String} {r : L2.St → V → List V → Hp → VK → Prop} {to : TE} (pa : PlainAttrs T) (slot : Slot T name id) (hty : typeOf (.builtin id) = pure (.type "method_descriptor")) (hm : ∀ σ, MtR X id (r σ)) (ho : PE X o to)
    (hbase : attributeBase o name X.env (eval o X.env) = eval o X.env := by rfl) (hline : (apos.endLine == cpos.line) = true := by rfl) : PE X (.Call (.Attribute o name apos) [] [] cpos) (fun σ H Q => tBM0 X.K T (r σ) to σ H Q) :=
  ⟨fun pins s σ H Q I h => (pe_bm0 pa slot hty (hm σ) ho hbase hline).run pins s σ H Q I h⟩
theorem pd_ml (pa : PlainAttrs "list") (slot : Slot "list" name id) (hty : typeOf (.builtin id) = pure (.type "method_descriptor")) (hm : MtD X id f) (ho : PD X W o mo) (ha : PAs X W (e :: es) ml)
    (hbase : attributeBase o name X.env (eval o X.env) = eval o X.env := by rfl)
    (hfew : ((backTo cpos (starEach (e :: es) X.env)).all (fun x => !x.1) && (backToKw cpos (keywordEach [] X.env)).all (fun x => x.1.isSome) && decide ((e :: es).length + ([] : List Keyword).length + (if ([] : List Keyword).isEmpty then 0 else 1) < 30)) = true := by rfl)
    (hline : (apos.endLine == cpos.line) = true := by rfl) (hs : starEach (e :: es) X.env = (false, eval e X.env) :: starEach es X.env := by rfl) (hplain : (backTo cpos (starEach es X.env)).any (·.1) = false := by rfl) :
    PD X W (.Call (.Attribute o name apos) (e :: es) [] cpos) (eMt mo ml f) := by
  refine PE.weak (pe_bmσ pa slot hty (fun σ => hm (fun c d H' => W c d σ H')) ho ha hbase hfew hline hs hplain) fun σ H Q ⟨μ, env, ah, he, hs, hp⟩ => ?_
  refine ⟨μ, env, ah, he, hs, hp.bind fun d ah1 μ1 x H1 e1 s1 r1 p1 => ?_⟩
  split at p1
  · rename_i hi
    have ty : tyV X.K "list" x H1 := by
      cases d with
      | ref n =>
        unfold isList at hi
        dsimp only at hi
        cases q : listAt ah1 n with
        | none => rw [q] at hi; cases hi
        | some xs => exact list_ty s1 r1 q
      | _ => cases hi
    refine ⟨ty, tG_next he e1 s1 (p1.bind fun ds ah2 μ2 vs H2 e2 s2 r2 p2 => ?_)⟩
    exact ⟨μ2, ah2, d, ds, s2, Rep.ext r1 e2, r2, p2⟩
  · exact p1.elim
theorem pd_ml0 (pa : PlainAttrs "list") (slot : Slot "list" name id) (hty : typeOf (.builtin id) = pure (.type "method_descriptor")) (hm : MtD X id f) (ho : PD X W o mo)
    (hbase : attributeBase o name X.env (eval o X.env) = eval o X.env := by rfl) (hline : (apos.endLine == cpos.line) = true := by rfl) : PD X W (.Call (.Attribute o name apos) [] [] cpos) (eMt mo aNil f) := by
  refine PE.weak (pe_bm0σ pa slot hty (fun σ => hm (fun c d H' => W c d σ H')) ho hbase hline) fun σ H Q ⟨μ, env, ah, he, hs, hp⟩ => ?_
  refine ⟨μ, env, ah, he, hs, hp.bind fun d ah1 μ1 x H1 e1 s1 r1 p1 => ?_⟩
  split at p1
  · rename_i hi
    have ty : tyV X.K "list" x H1 := by
      cases d with
      | ref n =>
        unfold isList at hi
        dsimp only at hi
        cases q : listAt ah1 n with
        | none => rw [q] at hi; cases hi
        | some xs => exact list_ty s1 r1 q
      | _ => cases hi
    exact ⟨ty, μ1, ah1, d, [], s1, r1, Reps.nil, p1⟩
  · exact p1.elim

/-! ### dicts with keys ints and texts -/
def oGet (d kd : D) (ah : AH) : Res D := match d, dKey kd with
  | .ref n, some kk => match ah[n]? with
    | some (.dK kvs) => match valD kvs kk with
      | some v => .ok v ah
      | none => .stuck
    | _ => .stuck
  | _, _ => .stuck
theorem val_get {K : PySem.W.Frag} {μ : List Addr} {H : Hp} {κ : Type} [DecidableEq κ] : ∀ {kvs : List (κ × D)} {kws : List (κ × V)} {kk : κ}, kvs.map (·.1) = kws.map (·.1) → Reps K μ H (kvs.map (·.2)) (kws.map (·.2)) → match valD kvs kk with
    | some d => ∃ v, valV kws kk = some v ∧ Rep K μ H d v
    | none => valV kws kk = none
  | [], [], kk, _, _ => rfl
  | [], _ :: _, _, h, _ => by simp at h
  | _ :: _, [], _, h, _ => by simp at h
  | (a, d) :: kvs, (b, v) :: kws, kk, h, r => by
    simp only [List.map_cons, List.cons.injEq] at h
    simp only [List.map_cons, Reps] at r
    obtain ⟨w, ws, e, r1, r2⟩ := r
    cases e
    obtain ⟨rfl, h2⟩ := h
    by_cases hk : a = kk
    · subst hk
      simp [valD, valV, r1]
    · have ih := val_get (kk := kk) h2 r2
      have e1 : valD ((a, d) :: kvs) kk = valD kvs kk := by simp [valD, hk]
      have e2 : valV ((a, v) :: kws) kk = valV kws kk := by simp [valV, hk]
      rw [e1, e2]; exact ih
theorem pd_get {i : Expr} {mi : EM D} (hr : Rm k X.A) (ho : PD X W o mo) (hi : PD X W i mi) (hs : NoSl i := by exact fun _ _ => rfl) : PD X W (.Subscript o i pos) (e2 mo mi oGet) := by
  refine PE.weak (pe_dget hr.u1 ho hi hs) fun σ H Q ⟨μ, env, ah, he, hs, hp⟩ => ?_
  refine ⟨μ, env, ah, he, hs, hp.bind fun d ah1 μ1 x H1 e1 s1 r1 p1 => ?_⟩
  refine tG_next he e1 s1 (p1.bind fun kd ah2 μ2 y H2 e2 s2 r2 p2 => ?_)
  unfold oGet at p2
  split at p2
  · rename_i n kk ek
    obtain ⟨a, ea, rfl⟩ := d_ref (Rep.ext (show Rep X.K μ1 H1 (.ref n) x from r1) e2)
    split at p2
    · rename_i kvs q
      split at p2
      · rename_i v ev
        obtain ⟨kws, h1, h2, r⟩ := s2.ok n a _ ea q
        have z := val_get (kk := kk) h2 r
        rw [ev] at z
        obtain ⟨u, eu, ru⟩ := z
        refine ⟨a, u, rfl, ?_, Post.ok1 (R := RD X.K) p2 s2 ru⟩
        rw [dKey_v ek r2, ← eu]
        exact DGet.k h1
      · exact p2.elim
    · exact p2.elim
  · exact p2.elim
def putD {κ : Type} [DecidableEq κ] (kvs : List (κ × D)) (kk : κ) (v : D) : List (κ × D) := if (kvs.any fun kv => decide (kv.1 = kk)) = true then kvs.map (fun kv => if kv.1 = kk then (kv.1, v) else kv) else kvs ++ [(kk, v)]
theorem put_rel {K : PySem.W.Frag} {μ : List Addr} {H : Hp} {κ : Type} [DecidableEq κ] {kvs : List (κ × D)} {kws : List (κ × V)} {kk : κ} {d : D} {v : V} (h : kvs.map (·.1) = kws.map (·.1)) (r : Reps K μ H (kvs.map (·.2)) (kws.map (·.2))) (rd : Rep K μ H d v) :
    (putD kvs kk d).map (·.1) = (putK kws kk v).map (·.1) ∧ Reps K μ H ((putD kvs kk d).map (·.2)) ((putK kws kk v).map (·.2)) := by
  have ha : (kvs.any fun kv => decide (kv.1 = kk)) = kws.any fun kv => decide (kv.1 = kk) := by
    have e1 : (kvs.any fun kv => decide (kv.1 = kk)) = (kvs.map (·.1)).any fun x => decide (x = kk) := by rw [List.any_map]; rfl
    have e2 : (kws.any fun kv => decide (kv.1 = kk)) = (kws.map (·.1)).any fun x => decide (x = kk) := by rw [List.any_map]; rfl
    rw [e1, e2, h]
  unfold putD putK
  rw [ha]
  split
  · rename_i hh
    clear ha hh
    induction kvs generalizing kws with
    | nil =>
      cases kws with
      | nil => exact ⟨rfl, Reps.nil⟩
      | cons _ _ => simp at h
    | cons p kvs ih =>
      cases kws with
      | nil => simp at h
      | cons q kws =>
        obtain ⟨a, x⟩ := p
        obtain ⟨b, y⟩ := q
        simp only [List.map_cons, List.cons.injEq] at h
        simp only [List.map_cons, Reps] at r
        obtain ⟨w, ws, e, r1, r2⟩ := r
        cases e
        obtain ⟨rfl, h2⟩ := h
        obtain ⟨i1, i2⟩ := ih h2 r2
        by_cases hk : a = kk
        · simp only [List.map_cons, if_pos hk]
          exact ⟨by rw [i1], Reps.cons rd i2⟩
        · simp only [List.map_cons, if_neg hk]
          exact ⟨by rw [i1], Reps.cons r1 i2⟩
  · simp only [List.map_append, List.map_cons, List.map_nil]
    exact ⟨by rw [h], r.append (Reps.cons rd Reps.nil)⟩
/-- d[k] = v -/
def sPut (mo mi mv : EM D) : SM := fun env ah => (mv env ah).thenS env fun v ah1 => (mo env ah1).thenS env fun d ah2 => (mi env ah2).thenS env fun kd ah3 => match d, dKey kd with
  | .ref n, some kk => match ah3[n]? with
    | some (.dK kvs) => if kvs.length < line then .nx env (ah3.set n (.dK (putD kvs kk v))) else .stuck
    | _ => .stuck
  | _, _ => .stuck
theorem pz_put {i v : Expr} {mi mv : EM D} {pos' : Pos} (hr : Rm k X.A) (ho : PD X W o mo) (hi : PD X W i mi) (hv : PD X W v mv) (hs : swapsWith v (some (.Subscript o i pos')) pos.line X.env = pure false := by rfl) : PZ X W (.Assign [.Subscript o i pos'] v pos) (sPut mo mi mv) := by
  refine PS.weak (ps_dput hr.u1 ho hi hv hs) fun D σ H ⟨μ, env, ah, he, hs, hp⟩ => ?_
  refine ⟨μ, env, ah, he, hs, PostS.bind hp he fun v ah1 μ1 w H1 e1 s1 r1 p1 => ?_⟩
  refine ⟨μ1, env, ah1, he.ext e1, s1, PostS.bind p1 (he.ext e1) fun d ah2 μ2 x H2 e2 s2 r2 p2 => ?_⟩
  refine ⟨μ2, env, ah2, he.ext (e1.trans e2), s2, PostS.bind p2 (he.ext (e1.trans e2)) fun kd ah3 μ3 y H3 e3 s3 r3 p3 => ?_⟩
  split at p3
  · rename_i n kk ek
    obtain ⟨a, ea, rfl⟩ := d_ref (Rep.ext (show Rep X.K μ2 H2 (.ref n) x from r2) e3)
    split at p3
    · rename_i kvs q
      split at p3
      · rename_i hl
        obtain ⟨kws, h1, h2, r⟩ := s3.ok n a _ ea q
        have hlen : kvs.length = kws.length := by simpa using congrArg List.length h2
        have rw1 : Rep X.K μ3 H3 v w := Rep.ext (Rep.ext r1 e2) e3
        obtain ⟨z1, z2⟩ := put_rel (kk := kk) h2 r rw1
        refine ⟨a, upd H3 a (.dK (putK kws kk w)), rfl, ?_, ?_⟩
        · rw [dKey_v ek r3]
          exact DPut.k h1 (Nat.lt_of_lt_of_le (by rw [← hlen]; exact hl) (line_le (Nat.le_refl _)))
        · have hn : n ≠ 0 := fun z => by
            have := (s3.ro0 n _ q).mpr z
            cases this
          have mu := (s3.ok n a _ ea q).there rfl
          exact p3 μ3 σ _ (Ext.put ea hn mu) (s3.put ea q rfl rfl fun ht => ⟨_, upd_same, z1, Reps.mono (List.prefix_refl _) ht _ _ z2⟩) ((he.ext ((e1.trans e2).trans e3)).ext (Ext.put ea hn mu))
      · exact p3.elim
    · exact p3.elim
  · exact p3.elim
/-- {} -/
def eDnew : EM D := fun _ ah => .ok (.ref ah.length) (ah ++ [.dK []])
theorem pd_dnew : PD X W (.Dict [] [] pos) eDnew := by
  refine PE.weak pe_dnewK fun σ H Q ⟨μ, env, ah, he, hs, hp⟩ p np => ?_
  refine hp (μ ++ [p]) (.ref p) _ (Ext.ours np hs.mpos) (hs.new np rfl ⟨[], upd_same, rfl, Reps.nil⟩) ?_
  show Rep _ _ _ _ _
  simp only [Rep]
  exact ⟨p, by rw [← hs.len]; simp, rfl⟩
/-- {k: v, ..} -/
def dispD (kvs : List (Key × D)) : List (Key × D) := kvs.foldl (fun acc kv => putD acc kv.1 kv.2) []
def dPairs : List (EM D × EM D) → EM (List (D × D))
  | [] => fun _ ah => .ok [] ah
  | (mk, mv) :: r => fun env ah => (mk env ah).bind fun x ah1 => (mv env ah1).bind fun y ah2 => (dPairs r env ah2).bind fun ps ah3 => .ok ((x, y) :: ps) ah3
def eDisp (l : List (EM D × EM D)) : EM D := fun env ah => (dPairs l env ah).bind fun ps ah1 => match optAll (fun p => (dKey p.1).map fun kk => (kk, p.2)) ps with
  | some kvs => if kvs.length ≤ 15 then .ok (.ref ah1.length) (ah1 ++ [.dK (dispD kvs)]) else .stuck
  | none => .stuck
end
end HA

/-! HA14: dict displays, keyword calls, pairs of targets, stores to lists, list(range), reversed slices. -/
namespace HA
open PySem PySem.Spec PyProof.Rows L2
section
variable {X : Cx} {W : WX} {k : Nat} {e : Expr} {es : List Expr} {m : EM D} {ml : EM (List D)} {pos : Pos}

/-! ### {k: v, ..} -/
theorem Sim.foreignM {K : PySem.W.Frag} {μ : List Addr} {H : Hp} {ah : AH} (S : Sim K μ H ah) {p : Addr} {u : HO} (hm : p ∉ μ.tail) (hp : Mut (H p)) : Sim K μ (upd H p u) ah := by
  refine ⟨S.len, S.nd, fun n a o e1 e2 => ?_, S.pos, S.ro0⟩
  refine (S.ok n a o e1 e2).mono (List.prefix_refl _) (TExt.mut hp) (fun q => ?_) fun ob v z => ?_
  · refine upd_ne fun z => ?_
    subst z
    have hn : n ≠ 0 := fun z => by
      have := (S.ro0 n o e2).mpr z
      rw [q] at this; cases this
    obtain ⟨k, rfl⟩ : ∃ k, n = k + 1 := ⟨n - 1, by omega⟩
    exact hm (List.mem_of_getElem? (i := k) (by rw [List.getElem?_tail]; exact e1))
  · rw [upd_ne fun w => by subst w; rw [z] at hp; exact hp]; exact z
theorem Ext.foreignM {K : PySem.W.Frag} {μ μ1 : List Addr} {H H1 : Hp} {p : Addr} {u : HO} (e : Ext K μ H μ1 H1) (h0 : H p = none) (hp : Mut (H1 p)) : Ext K μ H μ1 (upd H1 p u) where
  pre := e.pre
  tup := e.tup.trans (TExt.mut hp)
  new := e.new
  keep := fun a o hm h => by
    rw [upd_ne (fun z => by subst z; rw [h0] at h; cases h)]
    exact e.keep a o hm h
  there := fun a h => e.there a (there_upd a h)
def rps (K : PySem.W.Frag) (μ : List Addr) (H : Hp) (ps : List (D × D)) (qs : List (V × V)) : Prop := Reps K μ H (ps.map (·.1)) (qs.map (·.1)) ∧ Reps K μ H (ps.map (·.2)) (qs.map (·.2))
def RPs (K : PySem.W.Frag) : Rel (List (D × D)) (List (V × V)) := ⟨fun _ μ H ps qs => rps K μ H ps qs, fun _ h => h⟩
inductive PDs (X : Cx) (W : WX) : List (Option Expr) → List Expr → List (EM D × EM D) → Prop where
  | nil : PDs X W [] [] []
  | cons {a b : Expr} {ks : List (Option Expr)} {vs : List Expr} {ma mb : EM D} {l : List (EM D × EM D)} : PD X W a ma → PD X W b mb → PDs X W ks vs l → PDs X W (some a :: ks) (b :: vs) ((ma, mb) :: l)
theorem PDs.pps {ks : List (Option Expr)} {vs : List Expr} {l : List (EM D × EM D)} (h : PDs X W ks vs l) : PPs X pos ks vs (l.map fun p => (tG X.K (RD X.K) W p.1, tG X.K (RD X.K) W p.2)) := by
  induction h with
  | nil => exact pps_nil
  | cons h1 h2 _ ih => exact pps_cons h1 h2 ih
theorem pairs_step {P : List (V × V) → Hp → Prop} {σ : L2.St} : ∀ {l : List (EM D × EM D)} {μ : List Addr} {H : Hp} {env : Env} {ah : AH}, EnvRel X.K μ H env σ → Sim X.K μ H ah → Post X.K (RPs X.K) (fun c d H' => W c d σ H') μ H P (dPairs l env ah) →
    tPairs (l.map fun p => (tG X.K (RD X.K) W p.1, tG X.K (RD X.K) W p.2)) σ H P
  | [], μ, H, env, ah, he, hs, hp => Post.ok1 (R := RPs X.K) hp hs ⟨Reps.nil, Reps.nil⟩
  | (mk, mv) :: l, μ, H, env, ah, he, hs, hp => by
    refine ⟨μ, env, ah, he, hs, hp.bind fun x ah1 μ1 x' H1 e1 s1 r1 p1 => ?_⟩
    refine tG_next he e1 s1 (p1.bind fun y ah2 μ2 y' H2 e2 s2 r2 p2 => ?_)
    refine pairs_step (l := l) (he.ext (e1.trans e2)) s2 ?_
    cases q : dPairs l env ah2 with
    | ok ps ah3 =>
      rw [q] at p2
      intro μ3 qs H3 e3 s3 r3
      exact p2 μ3 ((x', y') :: qs) H3 e3 s3 ⟨Reps.cons (Rep.ext (Rep.ext r1 e2) e3) r3.1, Reps.cons (Rep.ext r2 e3) r3.2⟩
    | exn c fs ah3 => rw [q] at p2; exact p2
    | stuck => rw [q] at p2; exact p2
theorem disp_rel {K : PySem.W.Frag} {μ : List Addr} {H : Hp} : ∀ {kvs : List (Key × D)} {kws : List (Key × V)} {acc : List (Key × D)} {bcc : List (Key × V)}, kvs.map (·.1) = kws.map (·.1) → Reps K μ H (kvs.map (·.2)) (kws.map (·.2)) → acc.map (·.1) = bcc.map (·.1) → Reps K μ H (acc.map (·.2)) (bcc.map (·.2)) →
    (kvs.foldl (fun acc kv => putD acc kv.1 kv.2) acc).map (·.1) = (mergeK bcc kws).map (·.1) ∧ Reps K μ H ((kvs.foldl (fun acc kv => putD acc kv.1 kv.2) acc).map (·.2)) ((mergeK bcc kws).map (·.2))
  | [], [], acc, bcc, _, _, h, r => ⟨h, r⟩
  | [], _ :: _, _, _, h, _, _, _ => by simp at h
  | _ :: _, [], _, _, h, _, _, _ => by simp at h
  | (a, x) :: kvs, (b, y) :: kws, acc, bcc, h, r, h', r' => by
    simp only [List.map_cons, List.cons.injEq] at h
    simp only [List.map_cons, Reps] at r
    obtain ⟨w, ws, e, r1, r2⟩ := r
    cases e
    obtain ⟨rfl, h2⟩ := h
    obtain ⟨z1, z2⟩ := put_rel (kk := a) h' r' r1
    exact disp_rel (kvs := kvs) (kws := kws) h2 r2 z1 z2
theorem keys_rel {K : PySem.W.Frag} {μ : List Addr} {H : Hp} : ∀ {ps : List (D × D)} {qs : List (V × V)} {kvs : List (Key × D)}, optAll (fun p : D × D => (dKey p.1).map fun kk => (kk, p.2)) ps = some kvs → Reps K μ H (ps.map (·.1)) (qs.map (·.1)) → Reps K μ H (ps.map (·.2)) (qs.map (·.2)) →
    ∃ kws : List (Key × V), qs = kws.map (fun kv => (kV kv.1, kv.2)) ∧ kvs.map (·.1) = kws.map (·.1) ∧ Reps K μ H (kvs.map (·.2)) (kws.map (·.2))
  | [], qs, kvs, h, r1, r2 => by
    cases h
    simp only [List.map_nil, Reps, List.map_eq_nil_iff] at r1
    subst r1
    exact ⟨[], rfl, rfl, Reps.nil⟩
  | (a, b) :: ps, qs, kvs, h, r1, r2 => by
    obtain ⟨kv, cs, rfl, h1, h2⟩ := optAll_cons h
    obtain ⟨kk, hk, rfl⟩ := Option.map_eq_some_iff.mp h1
    cases qs with
    | nil => simp only [List.map_cons, List.map_nil, Reps] at r1; obtain ⟨_, _, e, _⟩ := r1; cases e
    | cons q qs =>
      obtain ⟨u, v⟩ := q
      simp only [List.map_cons, Reps] at r1 r2
      obtain ⟨_, _, e1, ra, rb⟩ := r1
      obtain ⟨_, _, e2, rc, rd⟩ := r2
      cases e1
      cases e2
      obtain ⟨kws, rfl, e3, r3⟩ := keys_rel h2 rb rd
      refine ⟨(kk, v) :: kws, ?_, ?_, ?_⟩
      · rw [dKey_v hk ra]; rfl
      · simp only [List.map_cons, e3]
      · exact Reps.cons rc r3
theorem pd_disp {keys : List (Option Expr)} {values : List Expr} {l : List (EM D × EM D)} (h : PDs X W keys values l) (hall : keys.all (·.isSome) = true := by rfl) (hl : keys.length = values.length := by rfl) (h0 : keys ≠ [] := by exact fun z => by cases z) (h15 : keys.length ≤ 15 := by decide) : PD X W (.Dict keys values pos) (eDisp l) := by
  refine PE.weak (pe_disp (PDs.pps h) hall hl h0 h15) fun σ H Q ⟨μ, env, ah, he, hs, hp⟩ p np => ?_
  have ex : Ext X.K μ H μ (upd H p (.dK [])) := Ext.other np
  refine pairs_step (μ := μ) (env := env) (ah := ah) (he.ext ex) (hs.other np) ?_
  unfold eDisp at hp
  cases q : dPairs l env ah with
  | ok ps ah1 =>
    rw [q] at hp
    intro μ1 qs H1 e1 s1 r1
    rw [Res.bind_ok] at hp
    split at hp
    · rename_i kvs ek
      split at hp
      · rename_i hc
        obtain ⟨kws, rfl, k1, k2⟩ := keys_rel ek r1.1 r1.2
        have hm : p ∉ μ1.tail := fun z => by
          rcases e1.new p z with w | w
          · exact hs.free np w
          · rw [upd_same] at w; cases w
        have hd : H1 p = some (.dK []) := e1.keep p _ (hs.free np) upd_same
        have hM : Mut (H1 p) := by rw [hd]; trivial
        have hlen : kvs.length = kws.length := by simpa using congrArg List.length k1
        refine ⟨hd, kws, rfl, by omega, ?_⟩
        have ht : TExt X.K H1 (upd H1 p (.dK (mergeK [] kws))) := TExt.mut hM
        have eH : Ext X.K μ H μ1 (upd H1 p (.dK (mergeK [] kws))) := Ext.foreignM (ex.trans e1) np hM
        obtain ⟨z1, z2⟩ := disp_rel (K := X.K) (μ := μ1 ++ [p]) (H := upd H1 p (.dK (mergeK [] kws))) (acc := []) (bcc := []) k1 (Reps.mono (List.prefix_append _ _) ht _ _ k2) rfl Reps.nil
        refine hp (μ1 ++ [p]) (.ref p) _ (eH.adopt np s1.mpos) (Sim.adopt (s1.foreignM hm hM) rfl hm ⟨_, upd_same, z1, z2⟩) ?_
        show Rep _ _ _ _ _
        simp only [Rep]
        exact ⟨p, by rw [← s1.len]; simp, rfl⟩
      · exact hp.elim
    · exact hp.elim
  | exn c fs ah1 => rw [q] at hp; exact fun μ' H' od e' s' x => hp μ' H' od (ex.trans e') s' x
  | stuck => rw [q] at hp; exact hp

/-! ### f(e, .., k = v, ..) -/
structure PKs (X : Cx) (W : WX) (kws : List Keyword) (m : EM (List D)) : Prop where
  pk : PK X kws (tG X.K (RA X.K) W m)
theorem PK.weak {kws : List Keyword} {t t' : TA} (h : PK X kws t) (k : ∀ σ H Q, t' σ H Q → t σ H Q) : PK X kws t' := ⟨fun p pins s σ H Q I q => h.run p pins s σ H Q I (k σ H Q q)⟩
theorem pks_nil : PKs X W [] aNil := ⟨PK.weak pk_nil fun σ H Q ⟨μ, env, ah, he, hs, hp⟩ => Post.ok1 (R := RA X.K) hp hs (show Reps X.K μ H [] [] from Reps.nil)⟩
theorem pks_cons {nm : Option Str} {kpos : Pos} {kws : List Keyword} {mes : EM (List D)} (ha : PD X W e m) (hr : PKs X W kws mes) : PKs X W (⟨nm, e, kpos⟩ :: kws) (aCons m mes) := by
  refine ⟨PK.weak (pk_cons ha hr.pk) fun σ H Q ⟨μ, env, ah, he, hs, hp⟩ => ?_⟩
  refine ⟨μ, env, ah, he, hs, hp.bind fun d ah1 μ1 x H1 e1 s1 r1 p1 => ?_⟩
  exact tG_next he e1 s1 (Post.cons r1 p1)
/-- how keywords' values are put in the parameters' order (no defaults) -/
structure KB (K : PySem.W.Frag) (fd : FuncData) (ps ks : List Str) (n : Nat) (g : {α : Type} → List α → List α → List α) : Prop where
  to : ∀ (s : Shared) (us ws : List Value), K.In s.heap → us.length = n → ws.length = ks.length → BindsTo s fd ⟨us, ks.zip ws⟩ (ps.zip (g us ws))
  len : ∀ {α : Type} (us ws : List α), us.length = n → ws.length = ks.length → (g us ws).length = ps.length
  rel : ∀ {vs : List V} {us : List Value} {zs : List V} {ws : List Value}, vs.length = n → zs.length = ks.length → Vals vs us → Vals zs ws → Vals (g vs zs) (g us ws)
  rep : ∀ {K' : PySem.W.Frag} {μ : List Addr} {H : Hp} {ds : List D} {vs : List V} {fs : List D} {zs : List V}, ds.length = n → fs.length = ks.length → Reps K' μ H ds vs → Reps K' μ H fs zs → Reps K' μ H (g ds fs) (g vs zs)
variable {f : Addr} {fd : FuncData} {ps ks : List Str} {mf : List D → AH → Res D} {x : Str} {p : Pos} {mk : EM (List D)} {kws : List Keyword} {g : {α : Type} → List α → List α → List α}
theorem pd_callK0 (F : FnG X.prog X.w X.K X.mg X.base k f fd ps mf) (hr : Rm k X.A) (hg : Gl X x) (hm : X.mg x = some (.ref f)) (hk : PySem.W.keepIn X.K (.ref f) = true) (hb : KB X.K fd ps ks 0 g) (tk : Takes X W) (ha : PKs X W kws mk) (hn : Many ks.length mk)
    (hall : (backToKw pos (keywordEach kws X.env)).all (·.1.isSome) = true := by rfl) (hks : (backToKw pos (keywordEach kws X.env)).filterMap (·.1) = ks := by rfl) (hdb : (x == ("__debug__" : Str)) = false := by decide)
    (hpl : ((backTo pos (starEach [] X.env)).any (·.1) || (backToKw pos (keywordEach kws X.env)).any (·.1.isNone)) = false := by rfl) : PD X W (.Call (.Name x p) [] kws pos) (e1 mk fun ds => mf (g [] ds)) := by
  refine ⟨fun pins s σ H Q I h => ?_⟩
  obtain ⟨μ, env, ah, hE, hs, hp⟩ := h
  refine wpAny_Call_Name_kw (ld_glob I hg hm ?_ hdb)
  refine PySem.W.callWith_KW0 (h₀ := X.base) I.ok.mod.kin hk hall (thn (ha.pk.run pos pins s σ H (fun vs H1 => vs.length = ks.length ∧ ∃ μ1 ah1 ds, ds.length = ks.length ∧ Sim X.K μ1 H1 ah1 ∧ Reps X.K μ1 H1 ds vs ∧ Post X.K (RD X.K) (fun c d H' => W c d σ H') μ1 H1 Q (mf (g [] ds) ah1)) I
    ⟨μ, env, ah, hE, hs, Post.many hn (hp.bind fun ds ah1 μ1 vs H1 e1 s1 r1 p1 hl => ⟨hl, μ1, ah1, ds, by rw [Reps.length (show Reps X.K μ1 H1 ds vs from r1)]; exact hl, s1, r1, p1⟩)⟩) fun ws s1 hz => ?_) hpl
  obtain ⟨vs, H1, I1, r, hl, μ1, ah1, ds, hd, s1', rd, p1⟩ := hz
  refine ⟨I1.kIn, ?_⟩
  rw [hks]
  have hw : ws.length = ks.length := by rw [← r.length]; exact hl
  exact call_G (vs := g [] vs) F hr tk I1 (hb.to s1 [] ws I1.kIn rfl hw) (hb.len [] vs rfl hl) (hb.rel rfl hl .nil r) s1' (hb.rep rfl hd Reps.nil rd) p1

/-! ### a, b = x, y and a, b, c = x, y, z -/
def sPar2 (i j : Nat) (ml : EM (List D)) : SM := fun env ah => (ml env ah).thenS env fun ds ah1 => match ds with
  | [x, y] => .nx ((env.set i (some x)).set j (some y)) ah1
  | _ => .stuck
theorem pz_par2 {i j : Nat} {x y : Str} {a b : Expr} {px py pt pt2 : Pos} {kt k2 : Nat} (hc : X.calm = true) (hN : X.N.Nodup) (hi : X.N[i]? = some x) (hj : X.N[j]? = some y) (hij : i ≠ j) (hx : X.env.scope.names.lookup x = some .local) (hy : X.env.scope.names.lookup y = some .local) (ha : PAs X W [a, b] ml)
    (hw : swappedStores [.Tuple [.Name x px, .Name y py] kt pt] (.Tuple [a, b] k2 pt2) X.env = pure (some [x, y])) (hs : swapsWithSole [.Tuple [.Name x px, .Name y py] kt pt] (.Tuple [a, b] k2 pt2) pos.line X.env = pure false := by rfl) :
    PZ X W (.Assign [.Tuple [.Name x px, .Name y py] kt pt] (.Tuple [a, b] k2 pt2) pos) (sPar2 i j ml) := by
  refine PS.weak (ps_par hc hN hi hj hij hx hy ha hw hs) fun D σ H ⟨μ, env, ah, he, hs, hp⟩ => ?_
  refine ⟨μ, env, ah, he, hs, PostS.bind hp he fun ds ah1 μ1 vs H1 e1 s1 r1 p1 => ?_⟩
  split at p1
  · obtain ⟨v, w, rfl, ra, rb⟩ := reps2 (show Reps X.K μ1 H1 _ vs from r1)
    exact ⟨v, w, rfl, post_next p1 s1 (((he.ext e1).set ra i).set rb j)⟩
  · exact p1.elim

/-! ### o[i] = v for lists -/
def sSetL (mo mi mv : EM D) : SM := fun env ah => (mv env ah).thenS env fun v ah1 => (mo env ah1).thenS env fun d ah2 => (mi env ah2).thenS env fun kd ah3 => match d, kd with
  | .ref n, .int i => match ah3[n]? with
    | some (.lst xs) => match ixN xs.length i with
      | some j => .nx env (ah3.set n (.lst (xs.set j v)))
      | none => .stuck
    | _ => .stuck
  | _, _ => .stuck
variable {o : Expr} {mo : EM D}
theorem pz_setL {i v : Expr} {mi mv : EM D} {pos' : Pos} (ho : PD X W o mo) (hi : PD X W i mi) (hv : PD X W v mv) (hs : swapsWithSole [.Subscript o i pos'] v pos.line X.env = pure false := by rfl) (hw : swappedStores [.Subscript o i pos'] v X.env = pure none := by rfl) (h1 : (assignEach [.Subscript o i pos'] X.env).map (·.2) = [assign (.Subscript o i pos') X.env] := by rfl)
    (ha : ∀ v, assign (.Subscript o i pos') X.env v = (do
      let ov ← holding [v] (eval o X.env)
      let iv ← holding [v, ov] (eval i X.env)
      standAt pos'
      holding [v, ov, iv] (setItem ov iv v)
      release [v, ov, iv] []) := by intro _; rfl) : PZ X W (.Assign [.Subscript o i pos'] v pos) (sSetL mo mi mv) := by
  refine PS.weak (ps_asg hv (pg_sub ho hi set_list ha) hs hw h1) fun D σ H ⟨μ, env, ah, he, hs, hp⟩ => ?_
  refine ⟨μ, env, ah, he, hs, PostS.bind hp he fun v ah1 μ1 w H1 e1 s1 r1 p1 => ?_⟩
  refine ⟨μ1, env, ah1, he.ext e1, s1, PostS.bind p1 (he.ext e1) fun d ah2 μ2 x H2 e2 s2 r2 p2 => ?_⟩
  refine ⟨μ2, env, ah2, he.ext (e1.trans e2), s2, PostS.bind p2 (he.ext (e1.trans e2)) fun kd ah3 μ3 y H3 e3 s3 r3 p3 => ?_⟩
  split at p3
  · rename_i n i
    obtain ⟨a, ea, rfl⟩ := d_ref (Rep.ext (show Rep X.K μ2 H2 (.ref n) x from r2) e3)
    rw [d_int (show Rep X.K μ3 H3 (.int i) y from r3)]
    split at p3
    · rename_i xs q
      split at p3
      · rename_i j ej
        obtain ⟨vs, h1, r⟩ := s3.ok n a _ ea q
        have rw1 : Rep X.K μ3 H3 v w := Rep.ext (Rep.ext r1 e2) e3
        refine ⟨a, vs, i, j, rfl, rfl, h1, by rw [← r.length]; exact ej, ?_⟩
        have hn : n ≠ 0 := fun z => by
          have := (s3.ro0 n _ q).mpr z
          cases this
        have mu := (s3.ok n a _ ea q).there rfl
        exact p3 μ3 σ _ (Ext.put ea hn mu) (s3.put ea q rfl rfl fun ht => ⟨_, upd_same, Reps.mono (List.prefix_refl _) ht _ _ (r.set j rw1)⟩) ((he.ext ((e1.trans e2).trans e3)).ext (Ext.put ea hn mu))
      · exact p3.elim
    · exact p3.elim
  · exact p3.elim

/-! ### list(range(..)) -/
def lRange (i j : Int) (ah : AH) : Res (List D) := if -(2 ^ 62) ≤ i ∧ i < 2 ^ 62 ∧ -(2 ^ 62) ≤ j ∧ j < 2 ^ 62 ∧ (j - i).toNat ≤ 2 ^ 24 then .ok ((List.range (j - i).toNat).map fun (n : Nat) => D.int (i + n)) ah else .stuck
def lRange1 (d : D) (ah : AH) : Res (List D) := match d with
  | .int j => lRange 0 j ah
  | _ => .stuck
def lRange2 (d f : D) (ah : AH) : Res (List D) := match d, f with
  | .int i, .int j => lRange i j ah
  | _, _ => .stuck
theorem rg_reps {K : PySem.W.Frag} {μ : List Addr} {H : Hp} (i j : Int) : Reps K μ H ((List.range (j - i).toNat).map fun (n : Nat) => D.int (i + n)) (rgV i j) := by
  have e : ((List.range (j - i).toNat).map fun (n : Nat) => D.int (i + n)) = ((List.range (j - i).toNat).map fun (n : Nat) => (i + n : Int)).map D.int := by rw [List.map_map]; rfl
  have e2 : rgV i j = ((List.range (j - i).toNat).map fun (n : Nat) => (i + n : Int)).map V.int := by unfold rgV; rw [List.map_map]; rfl
  rw [e, e2]
  exact Reps.of_ints _
theorem pl_range1 {a : Expr} {p p' pos' : Pos} {ma : EM D} (hc : X.calm = true) (hgl : Gl X "list") (hml : X.mg "list" = none) (hgr : Gl X "range") (hmr : X.mg "range" = none) (ha : PD X W a ma) (na : starEach [a] X.env = (false, eval a X.env) :: starEach [] X.env := by rfl)
    (na' : starEach [.Call (.Name "range" p') [a] [] pos] X.env = (false, eval (.Call (.Name "range" p') [a] [] pos) X.env) :: starEach [] X.env := by rfl) : PL X W (.Call (.Name "list" p) [.Call (.Name "range" p') [a] [] pos] [] pos') (e1 ma lRange1) := by
  refine PE.weak (pe_listRg hc hgl hml (prg_1 hgr hmr ha na) na') fun σ H Q ⟨μ, env, ah, he, hs, hp⟩ => ?_
  refine ⟨μ, env, ah, he, hs, hp.bind fun d ah1 μ1 x H1 e1 s1 r1 p1 => ?_⟩
  cases d with
  | int j =>
    unfold lRange1 lRange at p1
    dsimp only at p1
    split at p1
    · rename_i hl
      refine ⟨j, d_int (show Rep X.K μ1 H1 (.int j) x from r1), ⟨hl.1, hl.2.1, hl.2.2.1, hl.2.2.2.1, hl.2.2.2.2⟩, fun q nq => Post.newL p1 s1 (rg_reps 0 j) nq⟩
    · exact p1.elim
  | _ => exact p1.elim
theorem pl_range2 {a b : Expr} {p p' pos' : Pos} {ma mb : EM D} (hc : X.calm = true) (hgl : Gl X "list") (hml : X.mg "list" = none) (hgr : Gl X "range") (hmr : X.mg "range" = none) (ha : PD X W a ma) (hb : PD X W b mb) (na : starEach [a, b] X.env = (false, eval a X.env) :: starEach [b] X.env := by rfl) (nb : starEach [b] X.env = (false, eval b X.env) :: starEach [] X.env := by rfl) (hpp : (backTo pos (starEach [b] X.env)).any (·.1) = false := by rfl)
    (na' : starEach [.Call (.Name "range" p') [a, b] [] pos] X.env = (false, eval (.Call (.Name "range" p') [a, b] [] pos) X.env) :: starEach [] X.env := by rfl) : PL X W (.Call (.Name "list" p) [.Call (.Name "range" p') [a, b] [] pos] [] pos') (e2 ma mb lRange2) := by
  refine PE.weak (pe_listRg hc hgl hml (prg_2 hgr hmr ha hb na nb hpp) na') fun σ H Q ⟨μ, env, ah, he, hs, hp⟩ => ?_
  refine ⟨μ, env, ah, he, hs, hp.bind0 fun d ah1 μ1 x H1 e1 s1 r1 p1 => ?_⟩
  have p1 := Post.ext e1 p1
  refine tG_next he e1 s1 (p1.bind fun f ah2 μ2 y H2 e2 s2 r2 p2 => ?_)
  cases d with
  | int i =>
    cases f with
    | int j =>
      unfold lRange2 lRange at p2
      dsimp only at p2
      split at p2
      · rename_i hl
        exact ⟨i, j, d_int (Rep.ext (show Rep X.K μ1 H1 (.int i) x from r1) e2), d_int (show Rep X.K μ2 H2 (.int j) y from r2), ⟨hl.1, hl.2.1, hl.2.2.1, hl.2.2.2.1, hl.2.2.2.2⟩, fun q nq => Post.newL p2 s2 (rg_reps i j) nq⟩
      · exact p2.elim
    | _ => exact p2.elim
  | _ => exact p2.elim
end
end HA

/-! HA15: t[::-1], xs[::-1]. -/
namespace HA
open PySem PySem.Spec PyProof.Rows L2
section
variable {prog : Program} {w : World} {A : Around} {E : Value → Shared → Prop} {s : Shared}
theorem fm_congr {α β : Type} {f g : α → Option β} : ∀ {l : List α}, (∀ x ∈ l, f x = g x) → l.filterMap f = l.filterMap g
  | [], _ => rfl
  | a :: l, h => by
    rw [List.filterMap_cons, List.filterMap_cons, h a List.mem_cons_self, fm_congr (l := l) fun x hx => h x (List.mem_cons_of_mem _ hx)]
theorem rev_adjust (n : Nat) : Builtin.Slice.sliceAdjust none none (-1) (n : Int) = ((n : Int) - 1, -1) := by
  unfold Builtin.Slice.sliceAdjust
  simp
theorem rev_places (n : Nat) : Builtin.Slice.slicePlaces ((n : Int) - 1) (-1) (-1) = n := by
  unfold Builtin.Slice.slicePlaces
  have h1 : ¬ ((-1 : Int) > 0) := by decide
  simp only [h1, if_false]
  split <;> simp <;> omega
theorem rev_pick (xs : Array Value) : ((List.range xs.size).filterMap fun (j : Nat) => xs[(((xs.size : Int) - 1) + (j : Int) * (-1)).toNat]?).toArray = xs.toList.reverse.toArray := by
  have e : (List.range xs.size).filterMap (fun (j : Nat) => xs[(((xs.size : Int) - 1) + (j : Int) * (-1)).toNat]?) = ((List.range xs.size).map fun j => xs.size - 1 - j).filterMap (xs[·]?) := by
    rw [List.filterMap_map]
    refine fm_congr fun j hj => ?_
    have := List.mem_range.mp hj
    show _ = xs[xs.size - 1 - j]?
    congr 1
    omega
  rw [e, PySem.W.krv_range, List.filterMap_reverse, PySem.W.krv_all]
theorem getItem_tuple_rev {t sl : Addr} {items : Array Value} {vl vu vs : Value} {Q : Value → Shared → Prop} (ht : IsTup s.heap t items) (hs : s.heap.IsSliceOf sl vl vu vs) (pl : IsPart vl none) (pu : IsPart vu none) (ps : IsPart vs (some (-1)))
    (h : Q (.ref s.heap.objs.size) { s with heap := s.heap.push { cls := .type "tuple", data := .seq items.toList.reverse.toArray } }) (hsz : items.size ≤ sizeLine) : wpAny (model prog w) A (getItem (.ref t) (.ref sl)) Q E s := by
  have fits : sizeOk (.seq items.toList.reverse.toArray) := by
    show items.toList.reverse.toArray.size ≤ sizeLine
    rw [List.size_toArray, List.length_reverse, Array.length_toList]
    exact hsz
  obtain ⟨os, hos, hcs, hds⟩ := id hs
  have isSl : s.TypeIs (.ref sl) "slice" := ⟨os, hos, hcs⟩
  unfold getItem
  try with_reducible refine wpAny_holding ?_
  first | refine wpAny_bind (wpAny_pure ?_) | skip
  refine wpAny_bind (wpAny_sequenceKey ht.typeIs (by decide) ?_)
  refine wpAny_bind (wpAny_callSpecial?_slot (name := Str.ofString "__getitem__") ht.typeIs PyProof.Rows.slot_tuple_getitem (wpAny_call_entry PyProof.Rows.slot_tuple_getitem ht.typeIs entry_tuple_getitem ?_ (args_tuple_getitem _ _)))
  show wpAny _ _ (Builtin.Tuple.tupleItemsOf (.ref t) >>= _) _ _ s
  refine wpAny_bind (tupleItemsOf_ ht ?_)
  refine wpAny_bind (wpAny_typeOf isSl ?_)
  rw [if_pos (by decide)]
  have app : ∀ {A : Around} {Q : Int × Int × Nat → Shared → Prop}, Q ((items.size : Int) - 1, -1, items.size) s → wpAny (model prog w) A (Builtin.Slice.sliceApplied (.ref sl) (pure (items.size : Int))) Q E s := fun {A Q} hq => by
    unfold Builtin.Slice.sliceApplied Builtin.Slice.sliceFields
    refine wpAny_bind (wpAny_bind (wpAny_field hos hds (x := vl) rfl (wpAny_bind (wpAny_field hos hds (x := vu) rfl (wpAny_bind (wpAny_field hos hds (x := vs) rfl (wpAny_pure ?_)))))))
    refine wpAny_bind (HT.slicePart_ ps ?_)
    show wpAny _ _ (if ((-1 : Int) == 0) = true then _ else _) _ _ s
    rw [if_neg (by decide)]
    refine wpAny_bind (HT.slicePart_ pl (wpAny_bind (HT.slicePart_ pu (wpAny_bind (wpAny_pure ?_)))))
    show wpAny _ _ (match Builtin.Slice.sliceAdjust none none (-1) (items.size : Int) with | (lo, hi) => pure (lo, (-1 : Int), Builtin.Slice.slicePlaces lo hi (-1))) _ _ s
    rw [rev_adjust]
    show wpAny _ _ (pure ((items.size : Int) - 1, (-1 : Int), Builtin.Slice.slicePlaces ((items.size : Int) - 1) (-1) (-1))) _ _ s
    rw [rev_places]
    exact wpAny_pure hq
  refine wpAny_bind (app ?_)
  have no : ¬ ((((items.size : Int) - 1 == 0) && ((-1 : Int) == 1) && (items.size == items.size)) = true) := by simp
  show wpAny _ _ (if (((items.size : Int) - 1 == 0) && ((-1 : Int) == 1) && (items.size == items.size)) = true then _ else _) _ _ s
  rw [if_neg no, rev_pick]
  first
    | exact wpAny_bind (m := Builtin.Tuple.tupleExact _) (wpAny_newObj_type (wpAny_pure ⟨_, rfl, wpAny_pure h⟩) fits)
    | exact wpAny_bind (m := Builtin.Tuple.tupleExact _) (wpAny_newObj_type (wpAny_bind (wpAny_pure (wpAny_pure ⟨_, rfl, wpAny_pure h⟩))) fits)
    | exact wpAny_bind (wpAny_bind (m := Builtin.Tuple.tupleExact _) (wpAny_newObj_type (wpAny_pure (wpAny_pure ⟨_, rfl, wpAny_pure h⟩)) fits))
    | exact wpAny_bind (wpAny_bind (m := Builtin.Tuple.tupleExact _) (wpAny_newObj_type (wpAny_pure ⟨_, rfl, wpAny_pure h⟩) fits))
end
section
variable {X : Cx} {W : WX} {k : Nat} {e : Expr} {m : EM D} {pos : Pos}
def tRevT (K : PySem.W.Frag) (te : TE) : TE := fun σ H Q => te σ H fun x H1 => ∃ a xs, x = .ref a ∧ SqT K H1 a xs ∧ ∀ p, H1 p = none → Q (.ref p) (upd H1 p (.tup xs.reverse))
theorem pe_revT {te : TE} {j : Nat} {p1 p2 p3 : Pos} (he : PE X e te) : PE X (.Subscript e (.Slice none none (some (.UnaryOp .USub (.Constant (.int 1) j p1) p2)) p3) pos) (tRevT X.K te) := by
  refine ⟨fun pins s σ H Q I h => ?_⟩
  refine Subscript_ (thn (he.run pins s σ H _ I h) fun v s1 ⟨x, H1, I1, r1, q1⟩ => ?_)
  obtain ⟨a, xs, ex, hx, q⟩ := q1
  subst ex
  cases r1
  have back : PO X (some (.UnaryOp .USub (.Constant (.int 1) j p1) p2)) (tPart (tUn (rU fun i => .int (-i)) (tC (.int 1)))) := po_some (pe_un un_neg pe_int)
  refine wpAny_Slice (thn (po_none.run pins s1 σ H1 (fun o H' => o = none ∧ H' = H1) I1 ⟨rfl, rfl⟩) fun vl s2 ⟨l, H2, I2, pl, el, e2⟩ => ?_)
  subst el e2
  refine thn (po_none.run pins s2 σ H2 (fun o H' => o = none ∧ H' = H2) I2 ⟨rfl, rfl⟩) fun vu s3 ⟨u, H3, I3, pu, eu, e3⟩ => ?_
  subst eu e3
  refine thn (back.run pins s3 σ H3 (fun o H' => o = some (-1) ∧ H' = H3) I3 ⟨1, rfl, -1, rfl, rfl, rfl⟩) fun vs s4 ⟨o, H4, I4, ps, eo, e4⟩ => ?_
  subst eo e4
  have I5 : Inv X pins σ H4 { s4 with heap := s4.heap.push { cls := .type "slice", data := .fields #[vl, vu, vs] } } := I4.kept (t' := s4.toks) fun b ob q => Heap.get?_push_of_some _ q
  obtain ⟨its, r, ht, hz⟩ := I5.tuple hx
  have hl := r.length
  show wpAny (model X.prog X.w) X.A (subscriptTail e (.Slice none none (some (.UnaryOp .USub (.Constant (.int 1) j p1) p2)) p3) (.ref a) (.ref s4.heap.objs.size)) (EP X pins σ Q) X.xe { s4 with heap := s4.heap.push { cls := .type "slice", data := .fields #[vl, vu, vs] } }
  refine tail_any (ops := [.ref a, .ref s4.heap.objs.size]) ht.typeIs PyProof.Rows.slot_tuple_getitem.lookup ?_ (by with_unfolding_all rfl)
  refine getItem_tuple_rev ht (Heap.IsSliceOf.new _ vl vu vs) pl pu ps ?_ (by rw [List.size_toArray]; omega)
  refine ⟨.ref _, _, I5.laid (t' := s4.toks) (o := .tup xs.reverse) (fun b ob q => Heap.get?_push_of_some _ q) (Nat.le_refl _) ?_, rfl, q _ (I5.hok.fresh (Nat.le_refl _))⟩
  refine ⟨by rw [List.length_reverse]; exact hz, _, r.reverse, ?_⟩
  have := IsTup.new (s4.heap.push { cls := .type "slice", data := .fields #[vl, vu, vs] }) its.reverse.toArray
  simpa using this
def oRevT (d : D) (ah : AH) : Res D := match d with
  | .tup ds => .ok (.tup ds.reverse) ah
  | _ => .stuck
theorem pd_revT {j : Nat} {p1 p2 p3 : Pos} (he : PD X W e m) : PD X W (.Subscript e (.Slice none none (some (.UnaryOp .USub (.Constant (.int 1) j p1) p2)) p3) pos) (e1 m oRevT) := by
  refine PE.weak (pe_revT he) fun σ H Q ⟨μ, env, ah, he, hs, hp⟩ => ?_
  refine ⟨μ, env, ah, he, hs, hp.bind fun d ah1 μ1 x H1 e1 s1 r1 p1 => ?_⟩
  cases d with
  | tup ds =>
    obtain ⟨a, vs, rfl, q, r⟩ := d_tup (show Rep X.K μ1 H1 (.tup ds) x from r1)
    exact ⟨a, vs, rfl, q, fun p np => Post.newT p1 s1 r.reverse np⟩
  | _ => exact p1.elim
def lRevL (ds : List D) (ah : AH) : Res (List D) := .ok ds.reverse ah
theorem pl_revL {ml : EM (List D)} {j : Nat} {p1 p2 p3 : Pos} (he : PM X W e ml) : PL X W (.Subscript e (.Slice none none (some (.UnaryOp .USub (.Constant (.int 1) j p1) p2)) p3) pos) (e1 ml lRevL) := by
  refine PE.weak (pe_revL he) fun σ H Q ⟨μ, env, ah, he, hs, hp⟩ => ?_
  refine ⟨μ, env, ah, he, hs, hp.bind0 fun ds ah1 μ1 x H1 e1 s1 r1 p1 => ?_⟩
  obtain ⟨a, vs, rfl, q, r⟩ := r1
  refine ⟨a, vs, rfl, q, fun p np => ?_⟩
  exact p1 μ1 _ _ (e1.trans (Ext.other np)) (s1.other np) ⟨p, _, rfl, e1.there p np, upd_same, s1.free np, (r.ext (Ext.other np)).reverse⟩
end
end HA

/-! HA16: the end: the law's call from its mirror; constants of the module. -/
namespace HA
open PySem PySem.Spec PyProof.Rows L2

/-- the script alone -/
abbrev ah0 (ns : List Int) : AH := [.ro (ns.map D.int)]
section
variable {P : Program} {w : World} {K : PySem.W.Frag} {mg mb : Str → Option Value} {k : Nat} {fa a : Addr} {fd : FuncData} {x : Str} {m : List D → AH → Res D} {s₁ : Shared} {vs : List Value} {ns : List Int}
theorem sim0 {H : Hp} (h : (∃ o, H a = some (.frz o (.lst (ns.map V.int)))) ∨ ∃ (o : Obj) (its : Array Value) (n : Nat), K.lookup a = some o ∧ o.cls = .type "list" ∧ o.dict = none ∧ o.data = .seq its n ∧ its.size ≤ sizeLine ∧ Vals (ns.map V.int) its.toList) : Sim K [a] H (ah0 ns) := by
  refine ⟨rfl, fun n j b o o' e1 e2 e3 e4 r1 r2 => ?_, fun n b o e1 e2 => ?_, by simp, fun n o e => ?_⟩
  · cases n with
    | zero => simp at e3; subst e3; cases r1
    | succ n => simp at e3
  · cases n with
    | zero =>
      simp at e1 e2
      subst e1; subst e2
      exact ⟨ns.map V.int, h, Reps.of_ints ns⟩
    | succ n => simp at e2
  · cases n with
    | zero => simp at e; subst e; simp [AObj.isRo]
    | succ n => simp at e
theorem law_G (KX : K.In s₁.heap) (gl : s₁.heap.Ns mainGlobals mg) (bn : s₁.heap.Ns builtinsNs mb) (bb : ∀ x : Str, x ≠ "__name__" → mb x = bootBuiltins x) (nl : s₁.heap.NoLimit) (g0 : s₁.gens = #[])
    (ha : s₁.heap.get? a = some { cls := .type "list", data := .seq vs.toArray }) (hi : IntsAre vs ns) (hl : ns.length ≤ sizeLine) (hr : Rm k callerA)
    (F : ∀ base : Heap, K.In base → base.Ns mainGlobals mg → FnG P w K mg base k fa fd [x] m) (bd : ∀ (s : Shared) (u : Value), BindsTo s fd ⟨[u], []⟩ [(x, u)])
    (hm : ∃ ah', m [.ref 0] (ah0 ns) = .ok (.bl true) ah') :
    codeAny (model P w) callerA (.call (.ref fa) ⟨[.ref a], []⟩) (fun r s' => r = .ok (.ret (.bool true)) ∧ OldK s₁.heap s'.heap ∧ s'.os = s₁.os ∧ AllBare s'.gens) s₁ := by
  obtain ⟨ah', hm⟩ := hm
  have rv := vals_ints hi
  have lv := hi.length
  have main : ∀ H : Hp, Sim K [a] H (ah0 ns) → Only H → HOk P w H s₁.heap → (∀ b, H b ≠ none → b = a) → (H a ≠ none → K.lookup a = none) →
      codeAny (model P w) callerA (.call (.ref fa) ⟨[.ref a], []⟩) (fun r s' => r = .ok (.ret (.bool true)) ∧ OldK s₁.heap s'.heap ∧ s'.os = s₁.os ∧ AllBare s'.gens) s₁ := fun H S only ok at1 un1 => by
    have no : ∀ {b : Addr} {o : Obj} {es : Array DictEntry} {ep : Nat}, s₁.heap.get? b = some o → o.data = .dict es ep → H b = none := fun {b o es ep} e d => by
      cases q : H b with
      | none => rfl
      | some u =>
        obtain rfl : b = a := at1 b (by rw [q]; simp)
        rw [ha] at e
        cases e
        cases (show Data.seq vs.toArray _ = Data.dict es ep from d)
    have ns1 : ∀ {b : Addr} {f : Str → Option Value}, s₁.heap.Ns b f → (hidT s₁.heap H).Ns b f := fun {b f} ⟨o, es, ep, e, d, r⟩ => ⟨o, es, ep, hidT_get e (no e d), d, r⟩
    have kin : K.In (hidT s₁.heap H) := fun b o e => hidT_get (KX b o e) (by
      cases q : H b with
      | none => rfl
      | some u =>
        obtain rfl : b = a := at1 b (by rw [q]; simp)
        rw [un1 (by rw [q]; simp)] at e
        cases e)
    obtain ⟨mc, l1, l2⟩ := nl
    have env0 : Env0 P w K mg (hidT s₁.heap H) callerA [] s₁ H := ⟨rfl, ⟨kin, ns1 gl, ⟨mb, ns1 bn, bb⟩, ⟨mc, ns1 l1, l2⟩⟩, fun b o e => of_hidT e, Nat.le_of_eq (hidT_size _ _), trivial, fun b hb => (by cases hb), ok, .of_eq g0⟩
    have rd : Reps K [a] H [.ref 0] [.ref a] := Reps.cons (by simp only [Rep]; exact ⟨a, rfl, rfl⟩) Reps.nil
    refine codeAny_mono ((F _ kin (ns1 gl)).run callerA [] s₁ H ⟨[.ref a], []⟩ [.ref a] [.ref a] (fun v _ => v = .bl true) (fun _ _ _ => False) [a] [.ref 0] (ah0 ns) hr env0 (bd s₁ (.ref a)) (.cons rfl .nil) rfl S rd (by rw [hm]; intro μ' y H' _ _ r; exact d_bl (K := K) (μ := μ') (H := H') r)) fun r s' h => ?_
    cases r with
    | error e => obtain ⟨_, _, _, _, _, _, _, _, _, _, _, _, z⟩ := h; exact z.elim
    | ok fl =>
      cases fl with
      | next => exact h.elim
      | brk => exact h.elim
      | cont => exact h.elim
      | ret u =>
        obtain ⟨v, H', os, bare, un, ok', r', q⟩ := h
        obtain rfl : v = .bl true := q
        obtain rfl : u = Value.bool true := r'
        refine ⟨rfl, OldK.of_keep fun b o e => ?_, os, bare⟩
        cases q : H b with
        | none => exact un.keep b o e q (fun z => by cases z) (by simp)
        | some u =>
          rcases only b with z | ⟨ob, xs, z⟩
          · rw [q] at z; cases z
          · obtain ⟨e1, _⟩ := ok b _ z
            obtain ⟨e2, _⟩ := ok' b _ (un.frzs b ob _ z)
            rw [e] at e1
            cases e1
            exact e2
  cases hk : K.lookup a with
  | some o =>
    have e := KX a o hk
    rw [ha] at e
    cases e
    refine main (fun _ => none) (sim0 (.inr ⟨_, vs.toArray, _, hk, rfl, rfl, rfl, by rw [List.size_toArray, lv]; exact hl, by simpa using rv⟩)) (fun _ => .inl rfl) (fun b u z => by cases (show (none : Option HO) = some u from z)) (fun b z => (z rfl).elim) fun z => (z rfl).elim
  | none =>
    let o : Obj := { cls := .type "list", data := .seq vs.toArray }
    let H : Hp := fun b => if b = a then some (.frz o (.lst (ns.map V.int))) else none
    have at_a : H a = some (.frz o (.lst (ns.map V.int))) := if_pos rfl
    have off : ∀ b, b ≠ a → H b = none := fun b h => if_neg h
    refine main H (sim0 (.inl ⟨o, at_a⟩)) (fun b => ?_) (fun b u z => ?_) (fun b z => ?_) fun _ => hk
    · by_cases hb : b = a
      · subst hb; exact .inr ⟨_, _, at_a⟩
      · exact .inl (off b hb)
    · by_cases hb : b = a
      · subst hb
        rw [at_a] at z
        cases z
        exact ⟨ha, by rw [List.length_map]; exact hl, vs, _, rv, ha⟩
      · rw [off b hb] at z; cases z
    · by_cases hb : b = a
      · exact hb
      · exact (z (off b hb)).elim
end
/-- THE END of a law -/
theorem walk_G {l : PySem.W.OpenLaw} {k : Nat} {q : Program} {loose : List Str} {XP : (Str → Option Value) → Heap → Prop} {YP : World → Heap → Prop} {d : DefRec} {K : Params → PySem.W.Frag} {x : Str} {m : List D → AH → Res D}
    (hn : l.most = some 63) (hdf : d.params.defaults = []) (hr : Rm k callerA) (hY : ∀ (w : World) (h : Heap), YP w h → (K w.params).In h)
    (F : ∀ (w : World) (mg : Str → Option Value) (fa : Addr) (h : Heap), (K w.params).In h → h.Ns mainGlobals mg → mg d.name = some (.ref fa) →
      ∃ fd : FuncData, (∀ (s : Shared) (u : Value), BindsTo s fd ⟨[u], []⟩ [(x, u)]) ∧ ∀ base : Heap, (K w.params).In base → base.Ns mainGlobals mg → FnG l.prog w (K w.params) mg base k fa fd [x] m)
    (hm : ∀ ns : List Int, ns.length ≤ 63 → ∃ ah', m [.ref 0] (ah0 ns) = .ok (.bl true) ah') : PySem.W.WalkO q loose XP YP l.row.toRowW d [] (fun f vs => PySem.call f vs) := by
  refine Att.attach_call hn hdf fun w s₀ s₁ mg mb fa o pm cd doc a vs ns G Y ho hd hcd hmg hobj hints hlen hg => ?_
  have KX := hY w _ Y
  obtain ⟨fd, hb, hF⟩ := F w mg fa _ KX G.T.g hmg
  exact law_G KX G.T.g G.T.b G.T.builtins G.T.nolimit hg hobj hints (Nat.le_trans hlen (by decide)) hr hF hb (hm ns hlen)
theorem rm_caller {k : Nat} (h : k ≤ 200) : Rm k callerA := ⟨⟨rfl, by show 1 + claimMargin + 3 * k + 5 < recursionLimit; unfold claimMargin recursionLimit; omega, by show 4 + 16 * k + 200 < cLine; unfold cLine; omega⟩, rfl⟩

/-! ### constants of the module -/
/-- a value of the written part as a datum -/
def CR (K : PySem.W.Frag) (u : Value) (d : D) : Prop := ∃ v, RelV v u ∧ ∀ μ H, Rep K μ H d v
theorem cr_int {K : PySem.W.Frag} {i : Int} {t : Tok} : CR K (.int i t) (.int i) := ⟨.int i, ⟨t, rfl⟩, fun _ _ => by simp only [Rep]⟩
theorem cr_str {K : PySem.W.Frag} {i : Str} {t : Tok} : CR K (.str i t) (.str i) := ⟨.str i, ⟨t, rfl⟩, fun _ _ => by simp only [Rep]⟩
theorem cr_bl {K : PySem.W.Frag} {b : Bool} : CR K (.bool b) (.bl b) := ⟨.bl b, rfl, fun _ _ => by simp only [Rep]⟩
theorem cr_non {K : PySem.W.Frag} : CR K .none .non := ⟨.non, rfl, fun _ _ => by simp only [Rep]⟩
inductive CRs (K : PySem.W.Frag) : List Value → List D → Prop where
  | nil : CRs K [] []
  | cons {u : Value} {d : D} {us : List Value} {ds : List D} : CR K u d → CRs K us ds → CRs K (u :: us) (d :: ds)
theorem CRs.vals {K : PySem.W.Frag} {us : List Value} {ds : List D} (h : CRs K us ds) : ∃ vs, Vals vs us ∧ ∀ μ H, Reps K μ H ds vs := by
  induction h with
  | nil => exact ⟨[], .nil, fun _ _ => Reps.nil⟩
  | cons h _ ih =>
    obtain ⟨v, r, q⟩ := h
    obtain ⟨vs, rs, qs⟩ := ih
    exact ⟨v :: vs, .cons r rs, fun μ H => Reps.cons (q μ H) (qs μ H)⟩
theorem cr_tup {K : PySem.W.Frag} {a : Addr} {o : Obj} {us : Array Value} {n : Nat} {ds : List D} (hk : K.lookup a = some o) (hc : o.cls = .type "tuple") (hd : o.data = .seq us n) (hz : us.size ≤ line) (h : CRs K us.toList ds) : CR K (.ref a) (.tup ds) := by
  obtain ⟨vs, r, q⟩ := h.vals
  exact ⟨.ref a, rfl, fun μ H => by
    simp only [Rep]
    exact ⟨a, vs, rfl, .inr ⟨o, us, n, hk, hc, hd, line_le hz, r⟩, q μ H⟩⟩
theorem pd_const {X : Cx} {W : WX} {x : Str} {d : D} {pos : Pos} (hg : Gl X x) (h : ∃ u, X.mg x = some u ∧ CR X.K u d) (hd : (x == ("__debug__" : Str)) = false := by decide) : PD X W (.Name x pos) (eC d) := by
  obtain ⟨u, hm, v, r, q⟩ := h
  exact pd_glob hg hm r q hd
end HA

/-! HA17: chains of two comparisons; + of anything; what the module has written of a def. -/
namespace HA
open PySem PySem.Spec PyProof.Rows L2
section
variable {X : Cx} {W : WX} {k : Nat} {e : Expr} {es : List Expr} {m : EM D} {ml : EM (List D)} {pos : Pos}
/-! ### a <= b <= c -/
def bChain (ma mb mc : EM D) (f g : D → D → AH → Res Bool) : EM Bool := fun env ah => (ma env ah).bind fun x a1 => (mb env a1).bind fun y a2 => (f x y a2).bind fun c a3 => if c = true then (mc env a3).bind fun z a4 => g y z a4 else .ok false a3
variable {op op' : CmpOp} {a b c : Expr} {ma mb mc : EM D} {f g : D → D → AH → Res Bool}
theorem chain_step {σ : L2.St} {H : Hp} {Q : VK} {μ : List Addr} {env : Env} {ah : AH} (he : EnvRel X.K μ H env σ) (hs : Sim X.K μ H ah) (hp : Post X.K RBV (fun c d H' => W c d σ H') μ H Q (bChain ma mb mc f g env ah)) :
    tChain (rO (R := RBV) X.K (fun c d H' => W c d σ H') f) (rO (R := RBV) X.K (fun c d H' => W c d σ H') g) (tG X.K (RD X.K) W ma) (tG X.K (RD X.K) W mb) (tG X.K (RD X.K) W mc) σ H Q := by
  unfold bChain at hp
  refine ⟨μ, env, ah, he, hs, hp.bind fun dx a1 μ1 x H1 e1 s1 r1 p1 => ?_⟩
  refine tG_next he e1 s1 (p1.bind fun dy a2 μ2 y H2 e2 s2 r2 p2 => ?_)
  refine ⟨μ2, a2, dx, dy, s2, Rep.ext r1 e2, r2, p2.bind fun t a3 μ3 z H3 e3 s3 r3 p3 => ?_⟩
  refine ⟨t, r3, ?_⟩
  have e123 := (e1.trans e2).trans e3
  cases t with
  | true =>
    rw [if_pos rfl] at p3 ⊢
    refine tG_next he e123 s3 (p3.bind fun dz a4 μ4 z' H4 e4 s4 r4 p4 => ?_)
    exact ⟨μ4, a4, dy, dz, s4, Rep.ext r2 (e3.trans e4), r4, p4⟩
  | false =>
    rw [if_neg Bool.false_ne_true] at p3 ⊢
    exact p3.ok1 s3 rfl
theorem pd_chain (ho : OpD X RBV (compareOp op) f) (ho' : OpD X RBV (compareOp op') g) (ha : PD X W a ma) (hb : PD X W b mb) (hc : PD X W c mc) (hm : lastMarks [op, op'] [b, c] = false := by with_unfolding_all rfl) :
    PD X W (.Compare a [op, op'] [b, c] pos) (eB (bChain ma mb mc f g)) := by
  refine PE.weak (t := fun σ H Q => tChain (rO (R := RBV) X.K (fun c d H' => W c d σ H') f) (rO (R := RBV) X.K (fun c d H' => W c d σ H') g) (tG X.K (RD X.K) W ma) (tG X.K (RD X.K) W mb) (tG X.K (RD X.K) W mc) σ H Q)
    ⟨fun pins s σ H Q I h => (pe_chain (ho _) (ho' _) ha hb hc hm).run pins s σ H Q I h⟩ fun σ H Q ⟨μ, env, ah, he, hs, hp⟩ => chain_step he hs (Post.bv hp)
theorem pb_chain (ho : OpD X RBV (compareOp op) f) (ho' : OpD X RBV (compareOp op') g) (ha : PD X W a ma) (hb : PD X W b mb) (hc : PD X W c mc) (hm : lastMarks [op, op'] [b, c] = false := by with_unfolding_all rfl) :
    PB X W (.Compare a [op, op'] [b, c] pos) (bChain ma mb mc f g) := by
  refine PT.weak (t := fun σ H Q => tTest (tChain (rO (R := RBV) X.K (fun c d H' => W c d σ H') f) (rO (R := RBV) X.K (fun c d H' => W c d σ H') g) (tG X.K (RD X.K) W ma) (tG X.K (RD X.K) W mb) (tG X.K (RD X.K) W mc)) σ H Q)
    ⟨fun pins s σ H Q I h => (pt_chain (ho _) (ho' _) ha hb hc hm).run pins s σ H Q I h⟩ fun σ H Q ⟨μ, env, ah, he, hs, hp⟩ => chain_step he hs (Post.bb hp)

/-! ### x + y: numbers, texts, tuples, lists that stand -/
def oAddA : D → D → AH → Res D
  | .ref n, .ref m, ah => match ah[n]?, ah[m]? with
    | some (.lst xs), some (.lst ys) => if xs.length + ys.length ≤ line then .ok (.ref ah.length) (ah ++ [.lst (xs ++ ys)]) else .stuck
    | _, _ => .stuck
  | x, y, ah => oAdd x y ah
theorem OpR.or {F : Value → Value → Sem Value} {r r' : R2} (h : OpR X F r) (h' : OpR X F r') : OpR X F (fun x y H Q => r x y H Q ∨ r' x y H Q) := fun pins s σ H x y v u Q I rx ry q => q.elim (h pins s σ H x y v u Q I rx ry) (h' pins s σ H x y v u Q I rx ry)
theorem od_addA : OpD X (RD X.K) (binaryOp .Add) oAddA := fun Wx => by
  refine OpR.imp (OpR.or (od_add Wx) op_cat) fun x y H Q ⟨μ, ah, dx, dy, S, rx, ry, hp⟩ => ?_
  have old : oAddA dx dy ah = oAdd dx dy ah → rO (R := RD X.K) X.K Wx oAdd x y H Q ∨ rCat x y H Q := fun e => .inl ⟨μ, ah, dx, dy, S, rx, ry, by rw [← e]; exact hp⟩
  cases dx with
  | ref n =>
    cases dy with
    | ref m =>
      unfold oAddA at hp
      simp only at hp
      split at hp
      · rename_i xs ys q1 q2
        split at hp
        · rename_i hl
          obtain ⟨a, ea, rfl⟩ := d_ref rx
          obtain ⟨b, eb, rfl⟩ := d_ref ry
          obtain ⟨a', e1, vs, ha, ra⟩ := S.at q1
          obtain ⟨b', e2, ws, hb, rb⟩ := S.at q2
          rw [ea] at e1; cases e1
          rw [eb] at e2; cases e2
          refine .inr ⟨a, b, vs, ws, rfl, rfl, ha, hb, line_le (by rw [← ra.length, ← rb.length]; exact hl), fun p np => ?_⟩
          have r := (ra.append rb).mono (List.prefix_append μ [p]) (TExt.new (o := .lst (vs ++ ws)) np)
          refine hp (μ ++ [p]) (.ref p) (upd H p (.lst (vs ++ ws))) (Ext.ours np S.mpos) (S.new np rfl ⟨vs ++ ws, upd_same, r⟩) ?_
          show Rep X.K (μ ++ [p]) (upd H p (.lst (vs ++ ws))) (.ref ah.length) (.ref p)
          simp only [Rep]
          exact ⟨p, by rw [← S.len]; simp, rfl⟩
        · exact hp.elim
      · exact hp.elim
    | _ => exact old rfl
  | _ => exact old rfl
end

/-! ### what stands at the module's top -/
structure TF (K : PySem.W.Frag) (mg : Str → Option Value) (x : Str) (st : Stmt) (ps : List Str) where
  a : Addr
  fd : FuncData
  F : Fun K x x st a fd
  g : mg x = some (.ref a)
  k : PySem.W.keepIn K (.ref a) = true
  b : Binds K fd ps []
theorem fnG_stuck {P : Program} {w : World} {K : PySem.W.Frag} {mg : Str → Option Value} {base : Heap} {k : Nat} {f : Addr} {fd : FuncData} {ps : List Str} : FnG P w K mg base k f fd ps (fun _ _ => .stuck) := ⟨fun _ _ _ _ _ _ _ _ _ _ _ _ _ _ _ _ _ _ _ h => h.elim⟩
/-- a def from what the head tells -/
def tf_mk {K : PySem.W.Frag} {h : Heap} {mg : Str → Option Value} (X : K.In h) (G : h.Ns mainGlobals mg) {x : Str} {st : Stmt} {ps : List Str} {f : Addr} {oc : Value} {od an : Option Addr} {osl : Array (Option Value)} {kV doc pm cdv ct : Value}
    (hb : ∀ (kV doc pm : Value) (an : Option Addr) (cdv ct : Value) (us : List Value), us.length = ps.length → bindArgs (PySem.W.fnOf x x (defArgs st) (defBody st) (defScope st) .none kV doc pm an cdv ct) ⟨us, []⟩ = pure (ps.zip us))
    (l : K.lookup f = some ⟨oc, od, .func (PySem.W.fnOf x x (defArgs st) (defBody st) (defScope st) .none kV doc pm an cdv ct), osl⟩) (n : PySem.W.nsIn K mainGlobals x = some (some (.ref f)))
    (c : PySem.W.codeIn K cdv x = true) (k : PySem.W.keepIn K (.ref f) = true) : TF K mg x st ps :=
  ⟨f, _, fun_mk l c k, PySem.W.mg_of X G n, k, (fun_mk l c k).binds hb⟩
/-! ### keywords: the values in the parameters' order -/
def pick (π : List Nat) {α : Type} (us ws : List α) : List α := π.filterMap fun i => (us ++ ws)[i]?
theorem pick_cons {α : Type} {us ws : List α} {i : Nat} {π : List Nat} (h : i < us.length + ws.length) : pick (i :: π) us ws = (us ++ ws)[i]'(by simpa using h) :: pick π us ws := by
  unfold pick
  rw [List.filterMap_cons, List.getElem?_eq_getElem (by simpa using h)]
theorem vals_get : ∀ {vs : List V} {us : List Value} {i : Nat} {v : V} {u : Value}, Vals vs us → vs[i]? = some v → us[i]? = some u → RelV v u
  | _, _, _, _, _, .nil, e, _ => by simp at e
  | _, _, 0, _, _, .cons r _, e1, e2 => by simp at e1 e2; subst e1; subst e2; exact r
  | _, _, i + 1, _, _, .cons _ t, e1, e2 => vals_get t (by simpa using e1) (by simpa using e2)
theorem kb_pick {K : PySem.W.Frag} {x qual : Str} {st : Stmt} {f : Addr} {fd : FuncData} {ps ks : List Str} {n : Nat} (π : List Nat) (F : Fun K x qual st f fd) (hl : π.length = ps.length) (hπ : ∀ i ∈ π, i < n + ks.length)
    (hb : ∀ (kV doc pm : Value) (an : Option Addr) (cdv ct : Value) (us ws : List Value), us.length = n → ws.length = ks.length → bindArgs (PySem.W.fnOf x qual (defArgs st) (defBody st) (defScope st) .none kV doc pm an cdv ct) ⟨us, ks.zip ws⟩ = pure (ps.zip (pick π us ws))) :
    KB K fd ps ks n (fun {_} us ws => pick π us ws) where
  to := fun s us ws _ h1 h2 => by
    obtain ⟨oc, od, kV, doc, pm, an, cdv, ct, osl, rfl, lk, hcd⟩ := F.ex
    exact .of_eq (hb kV doc pm an cdv ct us ws h1 h2)
  len := fun {α} us ws h1 h2 => by
    rw [← hl]
    clear hb hl
    induction π with
    | nil => rfl
    | cons i π ih => rw [pick_cons (by rw [h1, h2]; exact hπ i (by simp)), List.length_cons, List.length_cons, ih fun j hj => hπ j (List.mem_cons_of_mem _ hj)]
  rel := fun {vs us zs ws} h1 h2 r1 r2 => by
    clear hb hl
    induction π with
    | nil => exact .nil
    | cons i π ih =>
      have hi := hπ i (by simp)
      have l1 := r1.length
      have l2 := r2.length
      rw [pick_cons (by rw [h1, h2]; exact hi), pick_cons (by rw [← l1, ← l2, h1, h2]; exact hi)]
      exact .cons (vals_get (Vals.append r1 r2) (List.getElem?_eq_getElem _) (List.getElem?_eq_getElem _)) (ih fun j hj => hπ j (List.mem_cons_of_mem _ hj))
  rep := fun {K' μ H ds vs fs zs} h1 h2 r1 r2 => by
    clear hb hl
    induction π with
    | nil => exact Reps.nil
    | cons i π ih =>
      have hi := hπ i (by simp)
      have l1 := r1.length
      have l2 := r2.length
      rw [pick_cons (by rw [h1, h2]; exact hi), pick_cons (by rw [← l1, ← l2, h1, h2]; exact hi)]
      refine Reps.cons ?_ (ih fun j hj => hπ j (List.mem_cons_of_mem _ hj))
      obtain ⟨v, e, r⟩ := (r1.append r2).get (i := i) (List.getElem?_eq_getElem (by simp [h1, h2]; exact hi))
      rw [List.getElem?_eq_getElem (by simp [← l1, ← l2, h1, h2]; exact hi)] at e
      cases e
      exact r
/-! ### comprehensions with their slots given -/
section
variable {X : Cx} {W : WX} {elt tg iter : Expr} {ifs : List Expr} {scope : Scope} {own : List (Str × Nat)} {pos : Pos} {mi : EM Itm} {tm : TM} {ts vs : List Nat} {mt : EM Bool} {me : EM D}
theorem pl_lcv (hc : X.calm = true) (hN : X.N.Nodup) (hi : PF X W tg iter mi) (ok : BlkOk X.N X.env.scope scope own) (hv : own.map (·.2) = vs) (hts : ∀ j ∈ ts, j ∈ own.map (·.2))
    (hg : ∀ (s : Shared) (H : Hp) (C : Addr) (cl : List (Str × Addr)) (fp : List Addr), PT1 (X.blk s H scope (compEnvC scope cl C X.env) fp) tg ts tm) (ht : ∀ (s : Shared) (H : Hp) (C : Addr) (cl : List (Str × Addr)) (fp : List Addr), PTsD (X.blk s H scope (compEnvC scope cl C X.env) fp) W0 ifs mt)
    (he : ∀ (s : Shared) (H : Hp) (C : Addr) (cl : List (Str × Addr)) (fp : List Addr), PD (X.blk s H scope (compEnvC scope cl C X.env) fp) W0 elt me) (hs : ∀ x, foldedSetIterable iter X.env x = pure x := by intro _; rfl) :
    PL X W (.ListComp elt [⟨tg, iter, ifs, 0⟩] scope pos) (lLc mi tm mt me vs) := hv ▸ pl_lc hc hN hi ok hts hg ht he hs
theorem pz_setLcv {i : Nat} {y : Str} {py spos : Pos} (hc : X.calm = true) (hN : X.N.Nodup) (hy : X.N[i]? = some y) (hyl : X.env.scope.names.lookup y = some .local)
    (hsw : swapsWith (.ListComp elt [⟨tg, iter, ifs, 0⟩] scope pos) (some (.Name y py)) spos.line X.env = pure true) (hi : PF X W tg iter mi) (ok : BlkOk X.N X.env.scope scope own) (hv : own.map (·.2) = vs) (hts : ∀ j ∈ ts, j ∈ own.map (·.2))
    (hg : ∀ (s : Shared) (H : Hp) (C : Addr) (cl : List (Str × Addr)) (fp : List Addr), PT1 (X.blk s H scope (compEnvC scope cl C X.env) fp) tg ts tm) (ht : ∀ (s : Shared) (H : Hp) (C : Addr) (cl : List (Str × Addr)) (fp : List Addr), PTsD (X.blk s H scope (compEnvC scope cl C X.env) fp) W0 ifs mt)
    (he : ∀ (s : Shared) (H : Hp) (C : Addr) (cl : List (Str × Addr)) (fp : List Addr), PD (X.blk s H scope (compEnvC scope cl C X.env) fp) W0 elt me) (hs : ∀ x, foldedSetIterable iter X.env x = pure x := by intro _; rfl) :
    PZ X W (.Assign [.Name y py] (.ListComp elt [⟨tg, iter, ifs, 0⟩] scope pos) spos) (sAsg (eNew (lLc mi tm mt me vs)) (gSet i)) := hv ▸ pz_setLc hc hN hy hyl hsw hi ok hts hg ht he hs
end
end HA

/-! HA18: the mirrors' words by simp. -/
namespace HA
open PySem PySem.Spec PyProof.Rows L2
section
variable {α β γ δ : Type} (env : Env) (ah : AH)
@[simp] theorem eVar_zero (d : D) (r : Env) : eVar 0 (some d :: r) ah = .ok d ah := rfl
@[simp] theorem eVar_succ (i : Nat) (x : Option D) (r : Env) : eVar (i + 1) (x :: r) ah = eVar i r ah := by
  unfold eVar
  rw [List.getElem?_cons_succ]
@[simp] theorem eC_def (d : D) : eC d env ah = .ok d ah := rfl
@[simp] theorem e1_def (ma : EM α) (f : α → AH → Res γ) : e1 ma f env ah = (ma env ah).bind f := rfl
@[simp] theorem e2_def (ma : EM α) (mb : EM β) (f : α → β → AH → Res γ) : e2 ma mb f env ah = (ma env ah).bind fun x ah1 => (mb env ah1).bind fun y ah2 => f x y ah2 := rfl
@[simp] theorem e3_def (ma : EM α) (mb : EM β) (mc : EM γ) (f : α → β → γ → AH → Res δ) : e3 ma mb mc f env ah = (ma env ah).bind fun x ah1 => (mb env ah1).bind fun y ah2 => (mc env ah2).bind fun z ah3 => f x y z ah3 := rfl
@[simp] theorem eB_def (m : EM Bool) : eB m env ah = (m env ah).bind fun b ah => .ok (.bl b) ah := rfl
@[simp] theorem aNil_def : aNil env ah = .ok [] ah := rfl
@[simp] theorem aCons_def (m : EM D) (r : EM (List D)) : aCons m r env ah = (m env ah).bind fun x ah1 => (r env ah1).bind fun xs ah2 => .ok (x :: xs) ah2 := rfl
@[simp] theorem bAnd_def (a b : EM Bool) : bAnd a b env ah = (a env ah).bind fun x ah1 => if x = true then b env ah1 else .ok false ah1 := rfl
@[simp] theorem bOr_def (a b : EM Bool) : bOr a b env ah = (a env ah).bind fun x ah1 => if x = true then .ok true ah1 else b env ah1 := rfl
@[simp] theorem bNot_def (a : EM Bool) : bNot a env ah = (a env ah).bind fun x ah1 => .ok (!x) ah1 := rfl
@[simp] theorem eAnd_def (a b : EM D) : eAnd a b env ah = (a env ah).bind fun x ah1 => (truth x ah1).bind fun k ah2 => if k = true then b env ah2 else .ok x ah2 := rfl
@[simp] theorem eOr_def (a b : EM D) : eOr a b env ah = (a env ah).bind fun x ah1 => (truth x ah1).bind fun k ah2 => if k = true then .ok x ah2 else b env ah2 := rfl
@[simp] theorem eNot_def (a : EM D) : eNot a env ah = (a env ah).bind fun x ah1 => (truth x ah1).bind fun k ah2 => .ok (.bl (!k)) ah2 := rfl
@[simp] theorem eIf_def (c : EM Bool) (a b : EM α) : eIf c a b env ah = (c env ah).bind fun x ah1 => if x = true then a env ah1 else b env ah1 := rfl
@[simp] theorem eTup_def (m : EM (List D)) : eTup m env ah = (m env ah).bind fun ds ah => if ds.length ≤ line then .ok (.tup ds) ah else .stuck := rfl
@[simp] theorem lLst_def (m : EM (List D)) : lLst m env ah = (m env ah).bind fun ds ah => if ds.length ≤ line then .ok ds ah else .stuck := rfl
@[simp] theorem eNew_def (m : EM (List D)) : eNew m env ah = (m env ah).bind fun ds ah => .ok (.ref ah.length) (ah ++ [.lst ds]) := rfl
@[simp] theorem tNew_def (m : EM (List D)) : tNew m env ah = (m env ah).bind fun ds ah => .ok (.inl ds) ah := rfl
@[simp] theorem tOur_def (m : EM D) : tOur m env ah = (m env ah).bind fun d ah => match d with
  | .ref n => .ok (.inr n) ah
  | _ => .stuck := rfl
@[simp] theorem oPart_none : oPart none env ah = .ok none ah := rfl
@[simp] theorem oPart_some (m : EM D) : oPart (some m) env ah = (m env ah).bind fun d ah => match d with
  | .int i => .ok (some i) ah
  | _ => .stuck := rfl
@[simp] theorem bChain_def (ma mb mc : EM D) (f g : D → D → AH → Res Bool) : bChain ma mb mc f g env ah = (ma env ah).bind fun x a1 => (mb env a1).bind fun y a2 => (f x y a2).bind fun c a3 => if c = true then (mc env a3).bind fun z a4 => g y z a4 else .ok false a3 := rfl
@[simp] theorem bNil_def (neg : Bool) (m : EM (List D)) : bNil neg m env ah = (m env ah).bind (lNil neg) := rfl
@[simp] theorem eMt_def (mo : EM D) (ml : EM (List D)) (f : D → List D → AH → Res D) : eMt mo ml f env ah = (mo env ah).bind fun d ah1 => if isList d ah1 = true then (ml env ah1).bind fun ds ah2 => f d ds ah2 else .stuck := rfl
@[simp] theorem iNew_def (m : EM (List D)) : iNew m env ah = (m env ah).bind fun ds ah => .ok ⟨ds, []⟩ ah := rfl
@[simp] theorem bYes_def : bYes env ah = .ok true ah := rfl
@[simp] theorem lLc_def (mi : EM Itm) (tm : TM) (test : EM Bool) (elt : EM D) (vs : List Nat) : lLc mi tm test elt vs env ah = (mi env ah).bind fun t ah1 => lcLoop t tm test elt vs env t.items [] ah1 := rfl
@[simp] theorem eDnew_def : eDnew env ah = .ok (.ref ah.length) (ah ++ [.dK []]) := rfl
@[simp] theorem eDisp_def (l : List (EM D × EM D)) : eDisp l env ah = (dPairs l env ah).bind fun ps ah1 => match optAll (fun p => (dKey p.1).map fun kk => (kk, p.2)) ps with
  | some kvs => if kvs.length ≤ 15 then .ok (.ref ah1.length) (ah1 ++ [.dK (dispD kvs)]) else .stuck
  | none => .stuck := rfl
@[simp] theorem dPairs_nil : dPairs [] env ah = .ok [] ah := rfl
@[simp] theorem dPairs_cons (mk mv : EM D) (r : List (EM D × EM D)) : dPairs ((mk, mv) :: r) env ah = (mk env ah).bind fun x ah1 => (mv env ah1).bind fun y ah2 => (dPairs r env ah2).bind fun ps ah3 => .ok ((x, y) :: ps) ah3 := rfl
/-! statements -/
@[simp] theorem thenS_ok (a : α) (f : α → AH → SRes) : (Res.ok a ah).thenS env f = f a ah := rfl
@[simp] theorem thenS_stuck (f : α → AH → SRes) : (Res.stuck : Res α).thenS env f = .stuck := rfl
@[simp] theorem thenS_exn (c : Addr) (fs : Option (List (Str × D))) (f : α → AH → SRes) : (Res.exn c fs ah : Res α).thenS env f = .exn c fs env ah := rfl
def SRes.next (r : SRes) (b : SM) : SRes := match r with
  | .nx env1 ah1 => b env1 ah1
  | r => r
@[simp] theorem next_nx (b : SM) : (SRes.nx env ah).next b = b env ah := rfl
@[simp] theorem next_rt (d : D) (b : SM) : (SRes.rt d ah).next b = .rt d ah := rfl
@[simp] theorem next_bk (b : SM) : (SRes.bk env ah).next b = .bk env ah := rfl
@[simp] theorem next_ct (b : SM) : (SRes.ct env ah).next b = .ct env ah := rfl
@[simp] theorem next_exn (c : Addr) (fs : Option (List (Str × D))) (b : SM) : (SRes.exn c fs env ah).next b = .exn c fs env ah := rfl
@[simp] theorem next_stuck (b : SM) : SRes.stuck.next b = .stuck := rfl
@[simp] theorem next_if (c : Prop) [Decidable c] (x y : SRes) (b : SM) : (if c then x else y).next b = if c then x.next b else y.next b := by split <;> rfl
@[simp] theorem sSeq_def (a b : SM) : sSeq a b env ah = (a env ah).next b := by unfold sSeq SRes.next; rfl
@[simp] theorem sSkip_def : sSkip env ah = .nx env ah := rfl
@[simp] theorem sRet_def (m : EM D) : sRet m env ah = (m env ah).thenS env fun d ah1 => .rt d ah1 := rfl
@[simp] theorem sRetN_def : sRetN env ah = .rt .non ah := rfl
@[simp] theorem sExpr_def (m : EM D) : sExpr m env ah = (m env ah).thenS env fun _ ah1 => .nx env ah1 := rfl
@[simp] theorem sIf_def (c : EM Bool) (a b : SM) : sIf c a b env ah = (c env ah).thenS env fun x ah1 => if x = true then a env ah1 else b env ah1 := rfl
@[simp] theorem sAsg_def (m : EM D) (t : TM) : sAsg m t env ah = (m env ah).thenS env fun d ah1 => match t d env ah1 with
  | some env1 => .nx env1 ah1
  | none => .stuck := rfl
@[simp] theorem sAsg_set (m : EM D) (i : Nat) : sAsg m (gSet i) env ah = (m env ah).thenS env fun d ah1 => .nx (env.set i (some d)) ah1 := rfl
@[simp] theorem gSet_def (i : Nat) (d : D) : gSet i d env ah = some (env.set i (some d)) := rfl
@[simp] theorem gTup_def (n : Nat) (u : List D → Env → AH → Option Env) (ds : List D) : gTupD n u (.tup ds) env ah = if ds.length = n then u ds env ah else none := rfl
@[simp] theorem gNil_def : gNilD [] env ah = some env := rfl
@[simp] theorem gCons_def (t : TM) (u : List D → Env → AH → Option Env) (d : D) (r : List D) : gConsD t u (d :: r) env ah = (t d env ah).bind fun env1 => u r env1 ah := rfl
@[simp] theorem sPut_def (mo mi mv : EM D) : sPut mo mi mv env ah = (mv env ah).thenS env fun v ah1 => (mo env ah1).thenS env fun d ah2 => (mi env ah2).thenS env fun kd ah3 => match d, dKey kd with
  | .ref n, some kk => match ah3[n]? with
    | some (.dK kvs) => if kvs.length < line then .nx env (ah3.set n (.dK (putD kvs kk v))) else .stuck
    | _ => .stuck
  | _, _ => .stuck := by
  unfold sPut
  rfl
@[simp] theorem sFor_def (mi : EM Itm) (tm : TM) (body : SM) : sFor mi tm body env ah = (mi env ah).thenS env fun t ah1 => forLoop t tm body t.items env ah1 := rfl
@[simp] theorem sPar2_def (i j : Nat) (ml : EM (List D)) : sPar2 i j ml env ah = (ml env ah).thenS env fun ds ah1 => match ds with
  | [x, y] => .nx ((env.set i (some x)).set j (some y)) ah1
  | _ => .stuck := rfl
@[simp] theorem bind_if (c : Prop) [Decidable c] (x y : Res α) (f : α → AH → Res β) : (if c then x else y).bind f = if c then x.bind f else y.bind f := by split <;> rfl
@[simp] theorem thenS_if (c : Prop) [Decidable c] (x y : Res α) (f : α → AH → SRes) : (if c then x else y).thenS env f = if c then x.thenS env f else y.thenS env f := by split <;> rfl
/-- what a body's end is to the caller -/
def SRes.fin (r : SRes) (ah : AH) : Res D := match r with
  | .nx _ ah' => HA.fin ah .non ah'
  | .rt d ah' => HA.fin ah d ah'
  | .exn c fs _ ah' => .exn c fs (finX ah fs ah')
  | _ => .stuck
@[simp] theorem sfin_nx (ah' : AH) : (SRes.nx env ah').fin ah = HA.fin ah .non ah' := rfl
@[simp] theorem sfin_rt (d : D) (ah' : AH) : (SRes.rt d ah').fin ah = HA.fin ah d ah' := rfl
@[simp] theorem sfin_exn (c : Addr) (fs : Option (List (Str × D))) (ah' : AH) : (SRes.exn c fs env ah').fin ah = .exn c fs (finX ah fs ah') := rfl
@[simp] theorem sfin_if (c : Prop) [Decidable c] (x y : SRes) : (if c then x else y).fin ah = if c then x.fin ah else y.fin ah := by split <;> rfl
/-- .. with all that it has made -/
def SRes.out (r : SRes) : Res D := match r with
  | .nx _ ah' => .ok .non ah'
  | .rt d ah' => .ok d ah'
  | .exn c fs _ ah' => .exn c fs ah'
  | _ => .stuck
@[simp] theorem out_nx (ah' : AH) : (SRes.nx env ah').out = .ok .non ah' := rfl
@[simp] theorem out_rt (d : D) (ah' : AH) : (SRes.rt d ah').out = .ok d ah' := rfl
@[simp] theorem out_exn (c : Addr) (fs : Option (List (Str × D))) (ah' : AH) : (SRes.exn c fs env ah').out = .exn c fs ah' := rfl
@[simp] theorem out_if (c : Prop) [Decidable c] (x y : SRes) : (if c then x else y).out = if c then x.out else y.out := by split <;> rfl
theorem fnR_1 (n : Nat) (mb : SM) (a : D) : fnR n 1 mb [a] ah = (mb (some a :: List.replicate (n - 1) none) ah).out := by unfold fnR SRes.out; rfl
theorem fnR_0 (n : Nat) (mb : SM) : fnR n 0 mb [] ah = (mb (List.replicate n none) ah).out := by unfold fnR SRes.out; rfl
theorem fnR_2 (n : Nat) (mb : SM) (a b : D) : fnR n 2 mb [a, b] ah = (mb (some a :: some b :: List.replicate (n - 2) none) ah).out := by unfold fnR SRes.out; rfl
theorem fnR_3 (n : Nat) (mb : SM) (a b c : D) : fnR n 3 mb [a, b, c] ah = (mb (some a :: some b :: some c :: List.replicate (n - 3) none) ah).out := by unfold fnR SRes.out; rfl
theorem fnR_4 (n : Nat) (mb : SM) (a b c d : D) : fnR n 4 mb [a, b, c, d] ah = (mb (some a :: some b :: some c :: some d :: List.replicate (n - 4) none) ah).out := by unfold fnR SRes.out; rfl
theorem fnM_1 (n : Nat) (mb : SM) (a : D) : fnM n 1 mb [a] ah = (mb (some a :: List.replicate (n - 1) none) ah).fin ah := by unfold fnM SRes.fin; rfl
theorem fnM_0 (n : Nat) (mb : SM) : fnM n 0 mb [] ah = (mb (List.replicate n none) ah).fin ah := by unfold fnM SRes.fin; rfl
theorem fnM_2 (n : Nat) (mb : SM) (a b : D) : fnM n 2 mb [a, b] ah = (mb (some a :: some b :: List.replicate (n - 2) none) ah).fin ah := by unfold fnM SRes.fin; rfl
theorem fnM_3 (n : Nat) (mb : SM) (a b c : D) : fnM n 3 mb [a, b, c] ah = (mb (some a :: some b :: some c :: List.replicate (n - 3) none) ah).fin ah := by unfold fnM SRes.fin; rfl
theorem fnM_4 (n : Nat) (mb : SM) (a b c d : D) : fnM n 4 mb [a, b, c, d] ah = (mb (some a :: some b :: some c :: some d :: List.replicate (n - 4) none) ah).fin ah := by unfold fnM SRes.fin; rfl
theorem fnM_5 (n : Nat) (mb : SM) (a b c d e : D) : fnM n 5 mb [a, b, c, d, e] ah = (mb (some a :: some b :: some c :: some d :: some e :: List.replicate (n - 5) none) ah).fin ah := by unfold fnM SRes.fin; rfl
end
@[simp] theorem fin_same' (ah : AH) (d : D) : fin ah d ah = .ok d ah := fin_same ah d
/-! scalars -/
@[simp] theorem oAdd_int (i j : Int) (ah : AH) : oAdd (.int i) (.int j) ah = .ok (.int (i + j)) ah := rfl
@[simp] theorem oAddA_int (i j : Int) (ah : AH) : oAddA (.int i) (.int j) ah = .ok (.int (i + j)) ah := rfl
@[simp] theorem oSub_int (i j : Int) (ah : AH) : oSub (.int i) (.int j) ah = .ok (.int (i - j)) ah := rfl
@[simp] theorem oNeg_int (i : Int) (ah : AH) : oNeg (.int i) ah = .ok (.int (-i)) ah := rfl
theorem log2_lt {i : Int} {n : Nat} (hn : 0 < n) (h : i.natAbs < 2 ^ n) : i.natAbs.log2 < n := by
  by_cases z : i.natAbs = 0
  · rw [z]; simpa using hn
  · exact (Nat.log2_lt z).mpr h
theorem mulOk_of {i j : Int} (h1 : i.natAbs < 2 ^ 1000) (h2 : j.natAbs < 2 ^ 1000) : mulOk i j = true := by
  unfold mulOk
  have a := log2_lt (by decide) h1
  have b := log2_lt (by decide) h2
  rw [decide_eq_true_eq]
  omega
theorem oMul_int {i j : Int} (ah : AH) (h1 : i.natAbs < 2 ^ 1000) (h2 : j.natAbs < 2 ^ 1000) : oMul (.int i) (.int j) ah = .ok (.int (i * j)) ah := by
  unfold oMul
  simp only
  rw [if_pos (mulOk_of h1 h2)]
theorem oFdiv_int {i j : Int} (ah : AH) (h1 : 0 < j) (h2 : j < 2 ^ 1000) : oFdiv (.int i) (.int j) ah = .ok (.int (i / j)) ah := by
  unfold oFdiv
  simp only
  have := log2_lt (i := j) (n := 1000) (by decide) (by omega)
  rw [if_pos ⟨h1, by omega⟩]
theorem oMod_int {i j : Int} (ah : AH) (h1 : 0 < j) : oMod (.int i) (.int j) ah = .ok (.int (i % j)) ah := by
  unfold oMod
  simp only
  rw [if_pos h1]
theorem oPow_int {i j : Int} (ah : AH) (h1 : 0 ≤ j ∧ j ≤ 1000000 ∧ i.natAbs < 2 ^ 64) : oPow (.int i) (.int j) ah = .ok (.int (i ^ j.toNat)) ah := by
  unfold oPow
  simp only
  rw [if_pos h1]
@[simp] theorem cEq_int (i j : Int) (ah : AH) : cEq (.int i) (.int j) ah = .ok (decide (i = j)) ah := rfl
@[simp] theorem cEq_str (i j : Str) (ah : AH) : cEq (.str i) (.str j) ah = .ok (decide (i = j)) ah := rfl
@[simp] theorem cEq_bl (i j : Bool) (ah : AH) : cEq (.bl i) (.bl j) ah = .ok (decide (i = j)) ah := rfl
@[simp] theorem cNe_int (i j : Int) (ah : AH) : cNe (.int i) (.int j) ah = .ok (!decide (i = j)) ah := rfl
@[simp] theorem cNe_str (i j : Str) (ah : AH) : cNe (.str i) (.str j) ah = .ok (!decide (i = j)) ah := rfl
@[simp] theorem cNe_bl (i j : Bool) (ah : AH) : cNe (.bl i) (.bl j) ah = .ok (!decide (i = j)) ah := rfl
@[simp] theorem cLt_int (i j : Int) (ah : AH) : cLt (.int i) (.int j) ah = .ok (decide (i < j)) ah := rfl
@[simp] theorem cLe_int (i j : Int) (ah : AH) : cLe (.int i) (.int j) ah = .ok (decide (i ≤ j)) ah := rfl
@[simp] theorem cGt_int (i j : Int) (ah : AH) : cGt (.int i) (.int j) ah = .ok (decide (j < i)) ah := rfl
@[simp] theorem cGe_int (i j : Int) (ah : AH) : cGe (.int i) (.int j) ah = .ok (decide (j ≤ i)) ah := rfl
@[simp] theorem truth_bl (b : Bool) (ah : AH) : truth (.bl b) ah = .ok b ah := rfl
@[simp] theorem truth_non (ah : AH) : truth .non ah = .ok false ah := rfl
@[simp] theorem truth_int (i : Int) (ah : AH) : truth (.int i) ah = .ok (i != 0) ah := rfl
@[simp] theorem oLen_tup (ds : List D) (ah : AH) : oLenA [.tup ds] ah = .ok (.int ds.length) ah := rfl
@[simp] theorem oIsi_def (d : D) (T : String) (ah : AH) : oIsi [d, .cst (.ty T)] ah = match tyName d ah with
  | some a => if T ∈ tyTable then .ok (.bl (tyIs a T)) ah else .stuck
  | none => .stuck := rfl
theorem ixD_nat {α : Type} {xs : List α} {i : Nat} {x : α} (h : xs[i]? = some x) : ixD xs (i : Int) = some x := by
  have hi : i < xs.length := (List.getElem?_eq_some_iff.mp h).1
  unfold ixD ixN
  have e : xs[i] = x := by rw [List.getElem?_eq_getElem hi] at h; exact Option.some.inj h
  simp [hi, e]
theorem oIx_tup {ds : List D} {i : Nat} {d : D} (ah : AH) (h : ds[i]? = some d) : oIx (.tup ds) (.int i) ah = .ok d ah := by simp only [oIx, ixD_nat h]
theorem oIx_lst {ds : List D} {i n : Nat} {d : D} {ah : AH} (hn : ah[n]? = some (.lst ds)) (h : ds[i]? = some d) : oIx (.ref n) (.int i) ah = .ok d ah := by simp only [oIx, hn, ixD_nat h]
theorem lIx_nat {ds : List D} {i : Nat} {d : D} (ah : AH) (h : ds[i]? = some d) : lIx ds (.int i) ah = .ok d ah := by simp only [lIx, ixD_nat h]
@[simp] theorem okIn_nil (ds : List D) (ah : AH) : (⟨ds, []⟩ : Itm).okIn ah = true := rfl
@[simp] theorem forLoop_nil (t : Itm) (tm : TM) (body : SM) (env : Env) (ah : AH) : forLoop t tm body [] env ah = if t.okIn ah = true then .nx env ah else .stuck := rfl
/-- a turn's end: go on, or out -/
def SRes.turn (r : SRes) (k : SM) : SRes := match r with
  | .nx env ah => k env ah
  | .ct env ah => k env ah
  | .bk env ah => .nx env ah
  | r => r
@[simp] theorem turn_nx (env : Env) (ah : AH) (k : SM) : (SRes.nx env ah).turn k = k env ah := rfl
@[simp] theorem turn_ct (env : Env) (ah : AH) (k : SM) : (SRes.ct env ah).turn k = k env ah := rfl
@[simp] theorem turn_bk (env : Env) (ah : AH) (k : SM) : (SRes.bk env ah).turn k = .nx env ah := rfl
@[simp] theorem turn_rt (d : D) (ah : AH) (k : SM) : (SRes.rt d ah).turn k = .rt d ah := rfl
@[simp] theorem turn_exn (c : Addr) (fs : Option (List (Str × D))) (env : Env) (ah : AH) (k : SM) : (SRes.exn c fs env ah).turn k = .exn c fs env ah := rfl
@[simp] theorem turn_stuck (k : SM) : SRes.stuck.turn k = .stuck := rfl
@[simp] theorem turn_if (c : Prop) [Decidable c] (x y : SRes) (k : SM) : (if c then x else y).turn k = if c then x.turn k else y.turn k := by split <;> rfl
@[simp] theorem forLoop_cons (t : Itm) (tm : TM) (body : SM) (d : D) (ds : List D) (env : Env) (ah : AH) : forLoop t tm body (d :: ds) env ah = if t.okIn ah = true then match tm d env ah with
    | some env1 => (body env1 ah).turn (forLoop t tm body ds)
    | none => .stuck else .stuck := by
  show (if t.okIn ah = true then _ else _) = _
  split
  · cases tm d env ah with
    | none => rfl
    | some env1 => simp only; cases body env1 ah <;> rfl
  · rfl
@[simp] theorem iVal_tup (ds : List D) (ah : AH) : iVal (.tup ds) ah = .ok ⟨ds, []⟩ ah := rfl
@[simp] theorem get_app0 {α : Type} (l r : List α) (a : α) : (l ++ a :: r)[l.length]? = some a := by simp
end HA

/-! HA19: data that can be shown; heaps that grow. -/
namespace HA
open PySem PySem.Spec PyProof.Rows L2
mutual
/-- numbers up to B in size, signs that exist -/
def tame (B : Nat) : PyData → Bool
  | .none | .bool _ => true
  | .int i => decide (i.natAbs ≤ B)
  | .str x => x.cps.toList.all fun c => decide (c < 16 ^ 8)
  | .list xs | .tuple xs => tames B xs
  | .dict kvs => tameKv B kvs
def tames (B : Nat) : List PyData → Bool
  | [] => true
  | x :: xs => tame B x && tames B xs
def tameKv (B : Nat) : List (PyData × PyData) → Bool
  | [] => true
  | (k, v) :: r => tame B k && tame B v && tameKv B r
end
mutual
theorem tame_leaf {B : Nat} (hB : B < 2 ^ 290) : ∀ p : PyData, tame B p = true → p.leavesShort 300 = true ∧ p.showable = true
  | .none, _ => ⟨rfl, rfl⟩
  | .bool _, _ => ⟨rfl, rfl⟩
  | .int i, h => by
    have h' : i.natAbs ≤ B := by simpa only [tame, decide_eq_true_eq] using h
    have l : i.natAbs.log2 < 290 := log2_lt (by decide) (Nat.lt_of_le_of_lt h' hB)
    simp only [PyData.leavesShort, PyData.showable, decide_eq_true_eq, PyData.shown]
    refine ⟨decide_eq_true ?_, by omega⟩
    rw [PySem.ofString_length]
    exact Nat.le_trans (int_text_length_le (k := 290) (by decide) l) (show 290 + 1 ≤ 300 by decide)
  | .str x, h => by
    simp only [PyData.leavesShort, PyData.showable]
    exact ⟨by simpa only [tame] using h, trivial⟩
  | .list xs, h => by
    simp only [PyData.leavesShort, PyData.showable]
    exact tames_leaf hB xs (by simpa only [tame] using h)
  | .tuple xs, h => by
    simp only [PyData.leavesShort, PyData.showable]
    exact tames_leaf hB xs (by simpa only [tame] using h)
  | .dict kvs, h => by
    simp only [PyData.leavesShort, PyData.showable]
    exact tameKv_leaf hB kvs (by simpa only [tame] using h)
theorem tames_leaf {B : Nat} (hB : B < 2 ^ 290) : ∀ ps : List PyData, tames B ps = true → PyData.leavesShortAll 300 ps = true ∧ PyData.showableAll ps = true
  | [], _ => ⟨rfl, rfl⟩
  | x :: xs, h => by
    simp only [tames, Bool.and_eq_true] at h
    have a := tame_leaf hB x h.1
    have b := tames_leaf hB xs h.2
    simp only [PyData.leavesShortAll, PyData.showableAll, Bool.and_eq_true]
    exact ⟨⟨a.1, b.1⟩, a.2, b.2⟩
theorem tameKv_leaf {B : Nat} (hB : B < 2 ^ 290) : ∀ ps : List (PyData × PyData), tameKv B ps = true → PyData.leavesShortKv 300 ps = true ∧ PyData.showableKv ps = true
  | [], _ => ⟨rfl, rfl⟩
  | (k, v) :: r, h => by
    simp only [tameKv, Bool.and_eq_true] at h
    have a := tame_leaf hB k h.1.1
    have b := tame_leaf hB v h.1.2
    have c := tameKv_leaf hB r h.2
    simp only [PyData.leavesShortKv, PyData.showableKv, Bool.and_eq_true]
    exact ⟨⟨⟨a.1, b.1⟩, c.1⟩, ⟨a.2, b.2⟩, c.2⟩
end
mutual
theorem tame_mono {B C : Nat} (h : B ≤ C) : ∀ p : PyData, tame B p = true → tame C p = true
  | .none, _ => rfl
  | .bool _, _ => rfl
  | .int i, e => by simp only [tame, decide_eq_true_eq] at e ⊢; omega
  | .str x, e => by simpa only [tame] using e
  | .list xs, e => by simp only [tame] at e ⊢; exact tames_mono h xs e
  | .tuple xs, e => by simp only [tame] at e ⊢; exact tames_mono h xs e
  | .dict kvs, e => by simp only [tame] at e ⊢; exact tameKv_mono h kvs e
theorem tames_mono {B C : Nat} (h : B ≤ C) : ∀ ps : List PyData, tames B ps = true → tames C ps = true
  | [], _ => rfl
  | x :: xs, e => by simp only [tames, Bool.and_eq_true] at e ⊢; exact ⟨tame_mono h x e.1, tames_mono h xs e.2⟩
theorem tameKv_mono {B C : Nat} (h : B ≤ C) : ∀ ps : List (PyData × PyData), tameKv B ps = true → tameKv C ps = true
  | [], _ => rfl
  | (k, v) :: r, e => by simp only [tameKv, Bool.and_eq_true] at e ⊢; exact ⟨⟨tame_mono h k e.1.1, tame_mono h v e.1.2⟩, tameKv_mono h r e.2⟩
end
theorem tame_len {B : Nat} (hB : B < 2 ^ 290) {p : PyData} (h : tame B p = true) (hw : p.weight ≤ 50000) : p.shown.length ≤ line := by
  have := PyData.shown_le 300 (by decide) p (tame_leaf hB p h).1
  have : (300 + 2) * p.weight ≤ 302 * 50000 := Nat.mul_le_mul (by decide) hw
  unfold line
  omega
theorem tames_app {B : Nat} : ∀ (xs ys : List PyData), tames B (xs ++ ys) = (tames B xs && tames B ys)
  | [], ys => rfl
  | x :: xs, ys => by simp only [List.cons_append, tames, tames_app xs ys, Bool.and_assoc]
theorem tames_iff {B : Nat} : ∀ {xs : List PyData}, tames B xs = true ↔ ∀ x ∈ xs, tame B x = true
  | [] => by simp [tames]
  | x :: xs => by simp [tames, tames_iff (xs := xs)]
theorem weightAll_app : ∀ (xs ys : List PyData), PyData.weightAll (xs ++ ys) = PyData.weightAll xs + PyData.weightAll ys
  | [], ys => by simp [PyData.weightAll]
  | x :: xs, ys => by simp only [List.cons_append, PyData.weightAll, weightAll_app xs ys]; omega
/-! ### optAll -/
theorem optAll_app {α β : Type} {f : α → Option β} : ∀ {xs ys : List α} {ps qs : List β}, optAll f xs = some ps → optAll f ys = some qs → optAll f (xs ++ ys) = some (ps ++ qs)
  | [], ys, ps, qs, h1, h2 => by cases h1; exact h2
  | x :: xs, ys, ps, qs, h1, h2 => by
    obtain ⟨b, cs, rfl, e1, e2⟩ := optAll_cons h1
    simp only [List.cons_append, optAll, e1, optAll_app e2 h2]
theorem optAll_take {α β : Type} {f : α → Option β} : ∀ {xs : List α} {ps : List β} (n : Nat), optAll f xs = some ps → optAll f (xs.take n) = some (ps.take n)
  | [], ps, n, h => by cases h; simp [optAll]
  | x :: xs, ps, 0, h => by simp [optAll]
  | x :: xs, ps, n + 1, h => by
    obtain ⟨b, cs, rfl, e1, e2⟩ := optAll_cons h
    simp only [List.take_succ_cons, optAll, e1, optAll_take n e2]
theorem optAll_drop {α β : Type} {f : α → Option β} : ∀ {xs : List α} {ps : List β} (n : Nat), optAll f xs = some ps → optAll f (xs.drop n) = some (ps.drop n)
  | [], ps, n, h => by cases h; simp [optAll]
  | x :: xs, ps, 0, h => h
  | x :: xs, ps, n + 1, h => by
    obtain ⟨b, cs, rfl, e1, e2⟩ := optAll_cons h
    simpa only [List.drop_succ_cons] using optAll_drop n e2
theorem optAll_rev {α β : Type} {f : α → Option β} : ∀ {xs : List α} {ps : List β}, optAll f xs = some ps → optAll f xs.reverse = some ps.reverse
  | [], ps, h => by cases h; rfl
  | x :: xs, ps, h => by
    obtain ⟨b, cs, rfl, e1, e2⟩ := optAll_cons h
    simp only [List.reverse_cons]
    exact optAll_app (optAll_rev e2) (by simp [optAll, e1])
theorem optAll_mono {α β : Type} {f g : α → Option β} (h : ∀ a b, f a = some b → g a = some b) : ∀ {xs : List α} {ps : List β}, optAll f xs = some ps → optAll g xs = some ps
  | [], ps, h' => by cases h'; rfl
  | x :: xs, ps, h' => by
    obtain ⟨b, cs, rfl, e1, e2⟩ := optAll_cons h'
    simp only [optAll, h _ _ e1, optAll_mono h e2]
theorem optAll_at {α β : Type} {f : α → Option β} : ∀ {xs : List α} {ps : List β} {i : Nat} {x : α}, optAll f xs = some ps → xs[i]? = some x → ∃ p, f x = some p ∧ ps[i]? = some p
  | [], ps, i, x, h, e => by simp at e
  | y :: xs, ps, i, x, h, e => by
    obtain ⟨b, cs, rfl, e1, e2⟩ := optAll_cons h
    cases i with
    | zero => simp at e; subst e; exact ⟨b, e1, rfl⟩
    | succ i => simpa using optAll_at e2 (by simpa using e)
/-! ### the same datum in a greater heap, looked at more deeply -/
def Vis (o : AObj) : Bool := match o with
  | .lst _ | .ro _ | .dK _ => true
  | _ => false
def Le (ah ah' : AH) : Prop := ∀ (i : Nat) (o : AObj), ah[i]? = some o → Vis o = true → ah'[i]? = some o
theorem Le.refl (ah : AH) : Le ah ah := fun _ _ h _ => h
theorem Le.trans {a b c : AH} (h1 : Le a b) (h2 : Le b c) : Le a c := fun i o e v => h2 i o (h1 i o e v) v
theorem Le.app (ah x : AH) : Le ah (ah ++ x) := fun i o e _ => by
  rw [List.getElem?_append_left (List.getElem?_eq_some_iff.mp e).1]; exact e
theorem toP_heap {ah ah' : AH} (h : Le ah ah') : ∀ (f g : Nat) (d : D) (p : PyData), f ≤ g → toP ah f d = some p → toP ah' g d = some p
  | 0, _, _, _, _, e => by cases e
  | f + 1, 0, _, _, l, _ => by omega
  | f + 1, g + 1, d, p, l, e => by
    have ih : ∀ {ds : List D} {ps : List PyData}, optAll (toP ah f) ds = some ps → optAll (toP ah' g) ds = some ps := fun q => optAll_mono (fun a b => toP_heap h f g a b (by omega)) q
    cases d with
    | non => exact e
    | bl b => exact e
    | int i => exact e
    | str x => exact e
    | cst v => cases e
    | tup ds =>
      simp only [toP, Option.map_eq_some_iff] at e ⊢
      obtain ⟨ps, q, r⟩ := e
      exact ⟨ps, ih q, r⟩
    | ref n =>
      simp only [toP] at e ⊢
      cases q : ah[n]? with
      | none => rw [q] at e; cases e
      | some o =>
        rw [q] at e
        cases o with
        | lst ds =>
          rw [h n _ q rfl]
          simp only [Option.map_eq_some_iff] at e ⊢
          obtain ⟨ps, q, r⟩ := e
          exact ⟨ps, ih q, r⟩
        | ro ds =>
          rw [h n _ q rfl]
          simp only [Option.map_eq_some_iff] at e ⊢
          obtain ⟨ps, q, r⟩ := e
          exact ⟨ps, ih q, r⟩
        | dK kvs =>
          rw [h n _ q rfl]
          simp only [Option.map_eq_some_iff] at e ⊢
          obtain ⟨ps, q, r⟩ := e
          exact ⟨ps, ih q, r⟩
        | dT kvs => cases e
        | ins C fs => cases e
theorem depthAll_le {n : Nat} : ∀ {ps : List PyData}, (∀ p ∈ ps, p.depth ≤ n) → PyData.depthAll ps ≤ n
  | [], _ => Nat.zero_le _
  | p :: ps, h => by
    simp only [PyData.depthAll]
    exact Nat.max_le.mpr ⟨h p (by simp), depthAll_le fun q hq => h q (List.mem_cons_of_mem _ hq)⟩
theorem depthKv_le {n : Nat} : ∀ {ps : List (PyData × PyData)}, (∀ p ∈ ps, p.1.depth ≤ n ∧ p.2.depth ≤ n) → PyData.depthKv ps ≤ n
  | [], _ => Nat.zero_le _
  | (a, b) :: ps, h => by
    simp only [PyData.depthKv]
    exact Nat.max_le.mpr ⟨Nat.max_le.mpr (h (a, b) (by simp)), depthKv_le fun q hq => h q (List.mem_cons_of_mem _ hq)⟩
theorem optAll_mem {α β : Type} {f : α → Option β} : ∀ {xs : List α} {ps : List β}, optAll f xs = some ps → ∀ p ∈ ps, ∃ x ∈ xs, f x = some p
  | [], ps, h, p, hp => by cases h; cases hp
  | x :: xs, ps, h, p, hp => by
    obtain ⟨b, cs, rfl, e1, e2⟩ := optAll_cons h
    rcases List.mem_cons.mp hp with rfl | z
    · exact ⟨x, by simp, e1⟩
    · obtain ⟨y, hy, q⟩ := optAll_mem e2 p z
      exact ⟨y, List.mem_cons_of_mem _ hy, q⟩
theorem toP_depth {ah : AH} : ∀ (f : Nat) (d : D) (p : PyData), toP ah f d = some p → p.depth ≤ f
  | 0, _, _, e => by cases e
  | f + 1, d, p, e => by
    have ih : ∀ {ds : List D} {ps : List PyData}, optAll (toP ah f) ds = some ps → ∀ p ∈ ps, p.depth ≤ f := fun {ds ps} q p hp => by
      obtain ⟨x, _, e⟩ := optAll_mem q p hp
      exact toP_depth f x p e
    cases d with
    | non => cases e; simp [PyData.depth]
    | bl b => cases e; simp [PyData.depth]
    | int i => cases e; simp [PyData.depth]
    | str x => cases e; simp [PyData.depth]
    | cst v => cases e
    | tup ds =>
      simp only [toP, Option.map_eq_some_iff] at e
      obtain ⟨ps, q, rfl⟩ := e
      simp only [PyData.depth]
      exact Nat.succ_le_succ (depthAll_le (ih q))
    | ref n =>
      simp only [toP] at e
      split at e
      · simp only [Option.map_eq_some_iff] at e
        obtain ⟨ps, q, rfl⟩ := e
        simp only [PyData.depth]
        exact Nat.succ_le_succ (depthAll_le (ih q))
      · simp only [Option.map_eq_some_iff] at e
        obtain ⟨ps, q, rfl⟩ := e
        simp only [PyData.depth]
        exact Nat.succ_le_succ (depthAll_le (ih q))
      · simp only [Option.map_eq_some_iff] at e
        obtain ⟨ps, q, rfl⟩ := e
        simp only [PyData.depth]
        refine Nat.succ_le_succ (depthKv_le fun z hz => ?_)
        obtain ⟨h1, h2⟩ := List.of_mem_zip hz
        refine ⟨?_, ih q _ h2⟩
        obtain ⟨kv, _, hk⟩ := List.mem_map.mp h1
        rw [← hk]
        cases kv.1 <;> simp [keyP, PyData.depth]
      · cases e
/-- a datum that repr shows: n deep, w heavy, numbers up to B -/
def Dat (B : Nat) (ah : AH) (n w : Nat) (d : D) : Prop := ∃ p, toP ah n d = some p ∧ tame B p = true ∧ p.weight ≤ w
theorem Dat.mono {B C : Nat} {ah ah' : AH} {n n' w w' : Nat} {d : D} (h : Dat B ah n w d) (l : Le ah ah') (hB : B ≤ C) (hn : n ≤ n') (hw : w ≤ w') : Dat C ah' n' w' d := by
  obtain ⟨p, e, t, k⟩ := h
  exact ⟨p, toP_heap l n n' d p hn e, tame_mono hB p t, by omega⟩
theorem Dat.repr {B : Nat} {ah : AH} {n w : Nat} {d : D} (h : Dat B ah n w d) (hB : B < 2 ^ 290) (hn : n ≤ 63) (hw : w ≤ 50000) : ∃ s : Str, ∀ ah', Le ah ah' → oRepr [d] ah' = .ok (.str s) ah' := by
  obtain ⟨p, e, t, k⟩ := h
  refine ⟨p.shown, fun ah' l => ?_⟩
  have q : pd ah' d = some p := toP_heap l n 63 d p hn e
  have q0 := toP_depth n d p e
  unfold oRepr
  simp only [q]
  rw [if_pos ⟨(tame_leaf hB p t).2, tame_len hB t (by omega), by omega⟩]
end HA
namespace HA
open PySem PySem.Spec PyProof.Rows L2
theorem eqv_tup_nil (ps : List PyData) : PyData.eqv (.tuple ps) (.tuple []) = ps.isEmpty := by
  cases ps <;> simp [PyData.eqv, PyData.eqvAll]
theorem cEq_tupNil (ds : List D) (ah : AH) : cEq (.tup ds) (.tup []) ah = .ok ds.isEmpty ah := by
  unfold cEq
  simp only
  split
  · rename_i b e
    unfold eqData at e
    split at e
    · rename_i p q e1 e2
      split at e
      · cases e
        have q0 : q = .tuple [] := by
          have : pd ah (.tup []) = some (.tuple []) := rfl
          rw [this] at e2; cases e2; rfl
        have : ∃ ps, optAll (toP ah 62) ds = some ps ∧ PyData.tuple ps = p := by
          simpa [pd, deep, toP, Option.map_eq_some_iff] using e1
        obtain ⟨ps, h1, rfl⟩ := this
        rw [q0, eqv_tup_nil]
        have := optAll_length h1
        cases ds <;> cases ps <;> simp_all
      · cases e
    · cases e
  · simp [eqLen]
@[simp] theorem cNe_tupNil (ds : List D) (ah : AH) : cNe (.tup ds) (.tup []) ah = .ok (!ds.isEmpty) ah := by
  unfold cNe
  rw [cEq_tupNil]
  rfl
/-! slices -/
theorem cut_head {α : Type} (xs : List α) (i : Nat) : cut xs none (some (i : Int)) = xs.take i := by
  unfold cut
  rw [HT.sIx_none, HT.sIx_nat]
  simp
theorem cut_tail {α : Type} (xs : List α) (i : Nat) : cut xs (some (i : Int)) none = xs.drop i := by
  unfold cut
  rw [HT.sIx_none, HT.sIx_nat]
  by_cases h : i ≤ xs.length
  · rw [Nat.min_eq_left h, List.take_of_length_le (by simp)]
  · rw [Nat.min_eq_right (by omega), List.drop_of_length_le (Nat.le_refl _), List.drop_of_length_le (by omega)]
    simp
@[simp] theorem oCut_head (ds : List D) (i : Nat) (ah : AH) : oCut (.tup ds) none (some (i : Int)) ah = .ok (.tup (ds.take i)) ah := by simp [oCut, cut_head]
@[simp] theorem oCut_tail (ds : List D) (i : Nat) (ah : AH) : oCut (.tup ds) (some (i : Int)) none ah = .ok (.tup (ds.drop i)) ah := by simp [oCut, cut_tail]
@[simp] theorem oCut_tail1 (ds : List D) (i : Nat) (ah : AH) : oCut (.tup ds) (some ((i : Int) + 1)) none ah = .ok (.tup (ds.drop (i + 1))) ah := oCut_tail ds (i + 1) ah
@[simp] theorem oCut_head1 (ds : List D) (i : Nat) (ah : AH) : oCut (.tup ds) none (some ((i : Int) + 1)) ah = .ok (.tup (ds.take (i + 1))) ah := oCut_head ds (i + 1) ah
@[simp] theorem oRevT_tup (ds : List D) (ah : AH) : oRevT (.tup ds) ah = .ok (.tup ds.reverse) ah := rfl
theorem oAdd_tup {xs ys : List D} (ah : AH) (h : xs.length + ys.length ≤ line) : oAdd (.tup xs) (.tup ys) ah = .ok (.tup (xs ++ ys)) ah := by simp [oAdd, h]
/-- an item of a list of one's own -/
theorem lIx_mem {ds : List D} {i : Nat} (ah : AH) (h : i < ds.length) : ∃ x ∈ ds, lIx ds (.int i) ah = .ok x ah :=
  ⟨ds[i], List.getElem_mem h, lIx_nat ah (List.getElem?_eq_getElem h)⟩
theorem oIx_mem {ds : List D} {i n : Nat} {ah : AH} (hn : ah[n]? = some (.lst ds)) (h : i < ds.length) : ∃ x ∈ ds, oIx (.ref n) (.int i) ah = .ok x ah :=
  ⟨ds[i], List.getElem_mem h, oIx_lst hn (List.getElem?_eq_getElem h)⟩
/-! data made of data -/
theorem Dat.tup {B : Nat} {ah : AH} {n w : Nat} {ds : List D} {ps : List PyData} (h : optAll (toP ah n) ds = some ps) (t : tames B ps = true) (hw : PyData.weightAll ps ≤ w) : Dat B ah (n + 1) w (.tup ds) :=
  ⟨.tuple ps, by simp [toP, h], by simpa [tame] using t, by simpa [PyData.weight] using hw⟩
theorem Dat.lst {B : Nat} {ah : AH} {n w m : Nat} {ds : List D} {ps : List PyData} (hm : ah[m]? = some (.lst ds)) (h : optAll (toP ah n) ds = some ps) (t : tames B ps = true) (hw : PyData.weightAll ps ≤ w) : Dat B ah (n + 1) w (.ref m) :=
  ⟨.list ps, by simp [toP, hm, h], by simpa [tame] using t, by simpa [PyData.weight] using hw⟩
theorem Dat.tup_inv {B : Nat} {ah : AH} {n w : Nat} {ds : List D} (h : Dat B ah (n + 1) w (.tup ds)) : ∃ ps, optAll (toP ah n) ds = some ps ∧ tames B ps = true ∧ PyData.weightAll ps ≤ w := by
  obtain ⟨p, e, t, k⟩ := h
  simp only [toP, Option.map_eq_some_iff] at e
  obtain ⟨ps, q, rfl⟩ := e
  exact ⟨ps, q, by simpa [tame] using t, by simpa [PyData.weight] using k⟩
theorem weight_mem {p : PyData} : ∀ {ps : List PyData}, p ∈ ps → p.weight + 1 ≤ PyData.weightAll ps
  | [], h => by cases h
  | q :: ps, h => by
    simp only [PyData.weightAll]
    rcases List.mem_cons.mp h with rfl | z
    · omega
    · have := weight_mem z; omega
theorem weightAll_rev (ps : List PyData) : PyData.weightAll ps.reverse = PyData.weightAll ps := by
  induction ps with
  | nil => rfl
  | cons p ps ih => rw [List.reverse_cons, weightAll_app, ih]; simp only [PyData.weightAll]; omega
theorem weightAll_td (ps : List PyData) (i : Nat) : PyData.weightAll (ps.take i) + PyData.weightAll (ps.drop i) = PyData.weightAll ps := by
  rw [← weightAll_app, List.take_append_drop]
theorem tames_take {B : Nat} {ps : List PyData} (h : tames B ps = true) (i : Nat) : tames B (ps.take i) = true := tames_iff.mpr fun x hx => tames_iff.mp h x (List.mem_of_mem_take hx)
theorem tames_drop {B : Nat} {ps : List PyData} (h : tames B ps = true) (i : Nat) : tames B (ps.drop i) = true := tames_iff.mpr fun x hx => tames_iff.mp h x (List.mem_of_mem_drop hx)
theorem tames_rev {B : Nat} {ps : List PyData} (h : tames B ps = true) : tames B ps.reverse = true := tames_iff.mpr fun x hx => tames_iff.mp h x (List.mem_reverse.mp hx)
theorem ofString_signs (s : String) : ((Str.ofString s).cps.toList.all fun c => decide (c < 16 ^ 8)) = true := by
  rw [Str.ofString_eq_toList, List.all_eq_true]
  intro c hc
  simp only [List.mem_map] at hc
  obtain ⟨ch, _, rfl⟩ := hc
  rw [decide_eq_true_eq]
  have := ch.val.toNat_lt
  exact this
theorem Dat.toStr {B : Nat} {ah : AH} {i : Int} (h : i.natAbs < 2 ^ 290) : Dat B ah 1 300 (.str (toString i)) := by
  refine ⟨.str _, rfl, ?_, ?_⟩
  · simp only [tame]; exact ofString_signs _
  · simp only [PyData.weight]
    have l : i.natAbs.log2 < 290 := log2_lt (by decide) h
    have := int_text_length_le (k := 290) (by decide) l
    rw [← PySem.ofString_length] at this
    exact Nat.le_trans this (by decide)
end HA
namespace HA
open PySem PySem.Spec PyProof.Rows L2
/-- a loop whose turns go on, by an invariant -/
theorem forLoop_ind {t : Itm} {tm : TM} {body : SM} (ht : ∀ ah, t.okIn ah = true) (P : Nat → Env → AH → Prop) : ∀ (ds : List D) (j : Nat) (env : Env) (ah : AH),
    (∀ (i : Nat) d env ah, ds[i]? = some d → P (j + i) env ah → ∃ env1 env' ah', tm d env ah = some env1 ∧ body env1 ah = .nx env' ah' ∧ P (j + i + 1) env' ah') → P j env ah → ∃ env' ah', forLoop t tm body ds env ah = .nx env' ah' ∧ P (j + ds.length) env' ah'
  | [], j, env, ah, _, h => ⟨env, ah, by rw [forLoop_nil, if_pos (ht ah)], h⟩
  | d :: ds, j, env, ah, hs, h => by
    obtain ⟨env1, env', ah', e1, e2, h'⟩ := hs 0 d env ah rfl h
    obtain ⟨e3, a3, q, h3⟩ := forLoop_ind ht P ds (j + 1) env' ah' (fun i d env ah e h => by
      have := hs (i + 1) d env ah (by simpa using e) (by rw [show j + (i + 1) = j + 1 + i by omega]; exact h)
      rwa [show j + (i + 1) + 1 = j + 1 + i + 1 by omega] at this) h'
    refine ⟨e3, a3, ?_, by rw [List.length_cons, show j + (ds.length + 1) = j + 1 + ds.length by omega]; exact h3⟩
    rw [forLoop_cons, if_pos (ht ah), e1]
    simp only [e2, turn_nx, q]
/-- a comprehension none of whose tests is true -/
theorem lcLoop_none {t : Itm} {tm : TM} {test : EM Bool} {elt : EM D} {vs : List Nat} {env : Env} {ah : AH} (ht : t.okIn ah = true) : ∀ (ds acc : List D), acc.length < line → (∀ d ∈ ds, ∃ env1, tm d (wipeE env vs) ah = some env1 ∧ test env1 ah = .ok false ah) → lcLoop t tm test elt vs env ds acc ah = .ok acc ah
  | [], acc, _, _ => by unfold lcLoop; rw [if_pos ht]
  | d :: ds, acc, ha, h => by
    obtain ⟨env1, e1, e2⟩ := h d (by simp)
    unfold lcLoop
    rw [if_pos ⟨ht, ha⟩, e1]
    simp only [e2]
    exact lcLoop_none ht ds acc ha fun d hd => h d (List.mem_cons_of_mem _ hd)
@[simp] theorem iRange1_nat (n : Nat) (ah : AH) (h : n < 2 ^ 62 := by decide) : iRange1 (.int n) ah = .ok ⟨(List.range n).map fun (i : Nat) => D.int i, []⟩ ah := by
  unfold iRange1
  simp only
  rw [if_pos (by omega)]
  simp
end HA
namespace HA
open PySem PySem.Spec PyProof.Rows L2
section
variable (ah : AH) (f : Nat)
@[simp] theorem toP_non : toP ah (f + 1) .non = some .none := rfl
@[simp] theorem toP_bl (b : Bool) : toP ah (f + 1) (.bl b) = some (.bool b) := rfl
@[simp] theorem toP_int (i : Int) : toP ah (f + 1) (.int i) = some (.int i) := rfl
@[simp] theorem toP_str (x : Str) : toP ah (f + 1) (.str x) = some (.str x) := rfl
theorem toP_tup (ds : List D) : toP ah (f + 1) (.tup ds) = (optAll (toP ah f) ds).map .tuple := rfl
theorem toP_lst {m : Nat} {ds : List D} (h : ah[m]? = some (.lst ds)) : toP ah (f + 1) (.ref m) = (optAll (toP ah f) ds).map .list := by simp only [toP, h]
theorem toP_dk {m : Nat} {kvs : List (Key × D)} (h : ah[m]? = some (.dK kvs)) : toP ah (f + 1) (.ref m) = (optAll (toP ah f) (kvs.map (·.2))).map fun vs => .dict ((kvs.map fun kv => keyP kv.1).zip vs) := by simp only [toP, h]
end
end HA
namespace HA
open PySem PySem.Spec PyProof.Rows L2
theorem lCat_ok {x y : LT} {ah : AH} {xs ys : List D} (h1 : ltOf x ah = some xs) (h2 : ltOf y ah = some ys) (hl : xs.length + ys.length ≤ line) : lCat x y ah = .ok (xs ++ ys) ah := by
  unfold lCat
  simp only [h1, h2]
  rw [if_pos hl]
end HA

/-! HD: the decks: what a draw comes to. -/
namespace HA
open PySem PySem.Spec PyProof.Rows L2

/-- what has been drawn from -/
structure Dk where
  cells : List Int
  at_ : Int
  sum : Int
structure Dk.Ok (d : Dk) : Prop where
  len : d.cells.length ≤ 64
  lo : 0 ≤ d.at_
  hi : d.at_ < 2 ^ 100
/-! ### lists of numbers as data -/
theorem optAll_ints (ah : AH) (n : Nat) : ∀ cs : List Int, optAll (toP ah (n + 1)) (cs.map D.int) = some (cs.map PyData.int)
  | [] => rfl
  | c :: cs => by
    simp only [List.map_cons, optAll, optAll_ints ah n cs]
    simp [toP]
theorem lay_ints : ∀ cs : List Int, PyData.canLayAll0 (cs.map PyData.int) = true
  | [] => rfl
  | c :: cs => by simp [PyData.canLayAll0, PyData.canLay0, lay_ints cs]
theorem depth_ints : ∀ cs : List Int, PyData.depthAll (cs.map PyData.int) = 0
  | [] => rfl
  | c :: cs => by simp [PyData.depthAll, PyData.depth, depth_ints cs]
theorem shaped_ints (cs : List Int) : SeqAt.shaped (.list (cs.map PyData.int)) = true := by
  unfold SeqAt.shaped
  simp [PyData.canLay0, lay_ints, PyData.depth, depth_ints]
theorem lNil_ints (neg : Bool) (cs : List Int) (ah : AH) : lNil neg (cs.map D.int) ah = .ok (if cs = [] then !neg else neg) ah := by
  cases cs with
  | nil => rfl
  | cons c cs =>
    show (match optAll (toP ah 62) ((c :: cs).map D.int) with
      | some ps => if SeqAt.shaped (.list ps) = true then Res.ok neg ah else .stuck
      | none => .stuck) = _
    rw [optAll_ints ah 61]
    simp only [shaped_ints, if_true]
    simp

/-! ### the deck that is a dict -/
def mixA (seed at_ b : Int) : Int :=
  let n1 := (seed % 2147483647 * 48271 + 69621 * at_ * at_ + 7919) % 2147483629
  let n2 := n1 * n1 % 2147483587
  n2 * (n2 + 39373) % 2147483563 / 64 % b
def Dk.drawA (d : Dk) (b : Int) : Int × Dk := match d.cells with
  | [] => (mixA (d.sum + (d.at_ + 1)) (d.at_ + 1) b, ⟨[], d.at_ + 1, d.sum⟩)
  | c :: r => if c ≥ 10 ^ 18 then (c % b, ⟨c / b :: r, d.at_ + 1, d.sum⟩) else (mixA c (d.at_ + 1) b, ⟨r, d.at_ + 1, d.sum⟩)
def hA (S : List D) (d : Dk) (rest : AH) : AH := .ro S :: .lst (d.cells.map D.int) :: .dK [(.inr "cells", .ref 1), (.inr "at", .int d.at_), (.inr "sum", .int d.sum)] :: rest
def b_tailA : SM := (sSeq (sAsg (e2 (e2 (e2 (e2 (e2 (eVar 4) (eC (.int 2147483647)) oMod) (eC (.int 48271)) oMul) (e2 (e2 (eC (.int 69621)) (eVar 2) oMul) (eVar 2) oMul) oAdd) (eC (.int 7919)) oAdd) (eC (.int 2147483629)) oMod) (gSet 5)) (sSeq (sAsg (e2 (e2 (eVar 5) (eVar 5) oMul) (eC (.int 2147483587)) oMod) (gSet 5)) (sRet (e2 (e2 (e2 (e2 (eVar 5) (e2 (eVar 5) (eC (.int 39373)) oAdd) oMul) (eC (.int 2147483563)) oMod) (eC (.int 64)) oFdiv) (eVar 1) oMod))))
def b_drawA : SM := (sSeq (sPut (eVar 0) (eC (.str "at")) (e2 (e2 (eVar 0) (eC (.str "at")) oGet) (eC (.int 1)) oAdd)) (sSeq (sAsg (e2 (eVar 0) (eC (.str "at")) oGet) (gSet 2)) (sSeq (sAsg (e2 (eVar 0) (eC (.str "cells")) oGet) (gSet 3)) (sSeq (sAsg (e2 (e2 (eVar 0) (eC (.str "sum")) oGet) (eVar 2) oAddA) (gSet 4)) (sSeq (sIf (bNil true (e1 (eVar 3) listOf)) (sSeq (sAsg (eMt (eVar 3) (aCons (eC (.int 0)) aNil) mPop) (gSet 4)) (sIf (e2 (eVar 4) (e2 (eC (.int 10)) (eC (.int 18)) oPow) cGe) (sSeq (sExpr (eMt (eVar 3) (aCons (eC (.int 0)) (aCons (e2 (eVar 4) (eVar 1) oFdiv) aNil)) mInsert)) (sRet (e2 (eVar 4) (eVar 1) oMod))) sSkip)) sSkip) b_tailA)))))
def m_drawA : List D → AH → Res D := fnM 6 2 b_drawA
theorem Dk.drawA_ok {d : Dk} (h : d.Ok) {b : Int} (n : Nat) (hn : d.at_ < n) (h' : n < 2 ^ 90) : (d.drawA b).2.Ok := by
  have l := h.len
  have lo := h.lo
  unfold Dk.drawA
  cases e : d.cells with
  | nil => exact ⟨by simp, by simp; omega, by simp; omega⟩
  | cons c r =>
    rw [e] at l
    simp at l
    dsimp only
    split
    · exact ⟨by simp; omega, by simp; omega, by simp; omega⟩
    · exact ⟨by simp; omega, by simp; omega, by simp; omega⟩
theorem Dk.drawA_at {d : Dk} {b : Int} : (d.drawA b).2.at_ = d.at_ + 1 := by
  unfold Dk.drawA
  cases e : d.cells with
  | nil => rfl
  | cons c r => dsimp only; split <;> rfl
theorem mixA_in {s a b : Int} (h : 0 < b) : 0 ≤ mixA s a b ∧ mixA s a b < b := by
  unfold mixA
  exact ⟨Int.emod_nonneg _ (by omega), Int.emod_lt_of_pos _ h⟩
theorem Dk.drawA_in {d : Dk} {b : Int} (h : 0 < b) : 0 ≤ (d.drawA b).1 ∧ (d.drawA b).1 < b := by
  unfold Dk.drawA
  cases e : d.cells with
  | nil => exact mixA_in h
  | cons c r =>
    dsimp only
    split
    · exact ⟨Int.emod_nonneg _ (by omega), Int.emod_lt_of_pos _ h⟩
    · exact mixA_in h
theorem draw_tailA {s a b : Int} {x0 x3 : Option D} {ah : AH} (h1 : 0 < b) (h2 : b < 2 ^ 1000) (h3 : 0 ≤ a) (h4 : a < 2 ^ 101) :
    b_tailA [x0, some (.int b), some (.int a), x3, some (.int s), none] ah = .rt (.int (mixA s a b)) ah := by
  unfold mixA b_tailA
  generalize hn1 : (s % 2147483647 * 48271 + 69621 * a * a + 7919) % 2147483629 = n1
  have b1 : 0 ≤ s % 2147483647 := Int.emod_nonneg _ (by decide)
  have b2 : s % 2147483647 < 2147483647 := Int.emod_lt_of_pos _ (by decide)
  have b3 : 0 ≤ n1 := by rw [← hn1]; exact Int.emod_nonneg _ (by decide)
  have b4 : n1 < 2147483629 := by rw [← hn1]; exact Int.emod_lt_of_pos _ (by decide)
  generalize hn2 : n1 * n1 % 2147483587 = n2
  have b5 : 0 ≤ n2 := by rw [← hn2]; exact Int.emod_nonneg _ (by decide)
  have b6 : n2 < 2147483587 := by rw [← hn2]; exact Int.emod_lt_of_pos _ (by decide)
  have m1 : oMul (.int (s % 2147483647)) (.int 48271) ah = .ok (.int (s % 2147483647 * 48271)) ah := oMul_int ah (by omega) (by decide)
  have m2 : oMul (.int 69621) (.int a) ah = .ok (.int (69621 * a)) ah := oMul_int ah (by decide) (by omega)
  have m3 : oMul (.int (69621 * a)) (.int a) ah = .ok (.int (69621 * a * a)) ah := oMul_int ah (by omega) (by omega)
  have m4 : oMul (.int n1) (.int n1) ah = .ok (.int (n1 * n1)) ah := oMul_int ah (by omega) (by omega)
  have m5 : oMul (.int n2) (.int (n2 + 39373)) ah = .ok (.int (n2 * (n2 + 39373))) ah := oMul_int ah (by omega) (by omega)
  have q1 : ∀ i : Int, oMod (.int i) (.int 2147483647) ah = .ok (.int (i % 2147483647)) ah := fun i => oMod_int ah (by decide)
  have q2 : ∀ i : Int, oMod (.int i) (.int 2147483629) ah = .ok (.int (i % 2147483629)) ah := fun i => oMod_int ah (by decide)
  have q3 : ∀ i : Int, oMod (.int i) (.int 2147483587) ah = .ok (.int (i % 2147483587)) ah := fun i => oMod_int ah (by decide)
  have q4 : ∀ i : Int, oMod (.int i) (.int 2147483563) ah = .ok (.int (i % 2147483563)) ah := fun i => oMod_int ah (by decide)
  have q5 : ∀ i : Int, oMod (.int i) (.int b) ah = .ok (.int (i % b)) ah := fun i => oMod_int ah h1
  have q6 : ∀ i : Int, oFdiv (.int i) (.int 64) ah = .ok (.int (i / 64)) ah := fun i => oFdiv_int ah (by decide) (by decide)
  simp [q1, m1, m2, m3, q2, hn1, m4, q3, hn2, m5, q4, q6, q5]
section
variable {S : List D} {d : Dk} {rest : AH}
theorem hA_cells : oGet (.ref 2) (.str "cells") (hA S d rest) = .ok (.ref 1) (hA S d rest) := by rfl
theorem hA_at : oGet (.ref 2) (.str "at") (hA S d rest) = .ok (.int d.at_) (hA S d rest) := by rfl
theorem hA_sum : oGet (.ref 2) (.str "sum") (hA S d rest) = .ok (.int d.sum) (hA S d rest) := by rfl
theorem hA_put {mo mv : EM D} {env : Env} {v : Int} (h1 : mv env (hA S d rest) = .ok (.int v) (hA S d rest)) (h2 : mo env (hA S d rest) = .ok (.ref 2) (hA S d rest)) : sPut mo (eC (.str "at")) mv env (hA S d rest) = .nx env (hA S ⟨d.cells, v, d.sum⟩ rest) := by
  unfold sPut
  rw [h1]
  simp only [thenS_ok]
  rw [h2]
  rfl
theorem hA_list : listOf (.ref 1) (hA S d rest) = .ok (d.cells.map D.int) (hA S d rest) := rfl
theorem hA_isList : isList (.ref 1) (hA S d rest) = true := rfl
theorem hA_pop {c : Int} {r : List Int} {a s : Int} : mPop (.ref 1) [.int 0] (hA S ⟨c :: r, a, s⟩ rest) = .ok (.int c) (hA S ⟨r, a, s⟩ rest) := by
  simp [mPop, hA, seqIndex?]
theorem hA_ins {v : Int} (h : d.cells.length < line) : mInsert (.ref 1) [.int 0, .int v] (hA S d rest) = .ok .non (hA S ⟨v :: d.cells, d.at_, d.sum⟩ rest) := by
  simp [mInsert, hA, h]
theorem hA_fin {d' : Dk} (x : D) : fin (hA S d rest) x (hA S d' rest) = .ok x (hA S d' rest) := fin_len x rfl
end
theorem draw_A {S : List D} {d : Dk} {rest : AH} {b : Int} (h : d.Ok) (h1 : 0 < b) (h2 : b < 2 ^ 1000) : m_drawA [.ref 2, .int b] (hA S d rest) = .ok (.int (d.drawA b).1) (hA S (d.drawA b).2 rest) := by
  have p18 : ∀ ah, oPow (.int 10) (.int 18) ah = .ok (.int (10 ^ 18)) ah := fun ah => oPow_int ah (by decide)
  have lo := h.lo
  have hi := h.hi
  have len := h.len
  obtain ⟨cells, a, s⟩ := d
  unfold m_drawA b_drawA
  rw [fnM_2, sSeq_def, hA_put (v := a + 1) (by simp [hA_at]) (by simp)]
  dsimp only at lo hi len
  have tl := fun (s : Int) (x0 x3 : Option D) (ah : AH) => draw_tailA (s := s) (x0 := x0) (x3 := x3) (ah := ah) h1 h2 (a := a + 1) (by omega) (by omega)
  have ci : ∀ (neg : Bool) (cs : List Int) (ah : AH), lNil neg (cs.map D.int) ah = .ok (if cs = [] then !neg else neg) ah := lNil_ints
  cases cells with
  | nil => simp [hA_at, hA_cells, hA_sum, hA_list, ci, tl, hA_fin, Dk.drawA, -List.map_nil]
  | cons c r =>
    have fd : ∀ ah, oFdiv (.int c) (.int b) ah = .ok (.int (c / b)) ah := fun ah => oFdiv_int ah h1 h2
    have md : ∀ ah, oMod (.int c) (.int b) ah = .ok (.int (c % b)) ah := fun ah => oMod_int ah h1
    by_cases hc : (1000000000000000000 : Int) ≤ c
    · simp [hA_at, hA_cells, hA_sum, hA_list, ci, tl, hA_fin, Dk.drawA, hA_isList, hA_pop, p18, hc, fd, md, -List.map_cons]
      rw [hA_ins (d := ⟨r, a + 1, s⟩) (by simp at len; show r.length < 16777216; omega)]
      simp [md, hA_fin]
    · simp [hA_at, hA_cells, hA_sum, hA_list, ci, tl, hA_fin, Dk.drawA, hA_isList, hA_pop, p18, hc, -List.map_cons]
/-! drawing, as far as laws need it -/
def DOk (n : Nat) (d : Dk) : Prop := d.cells.length ≤ 64 ∧ 0 ≤ d.at_ ∧ d.at_ ≤ n
theorem DOk.mono {m n : Nat} {d : Dk} (h : DOk m d) (l : m ≤ n) : DOk n d := ⟨h.1, h.2.1, by have := h.2.2; omega⟩
theorem drawA' {n : Nat} {d : Dk} {b : Int} (h : DOk n d) (hn : n < 10 ^ 9) (h1 : 0 < b) (h2 : b < 10 ^ 9) : ∃ (v : Nat) (d' : Dk), (∀ S rest, m_drawA [.ref 2, .int b] (hA S d rest) = .ok (.int v) (hA S d' rest)) ∧ (v : Int) < b ∧ DOk (n + 1) d' := by
  obtain ⟨a1, a2, a3⟩ := h
  have ok : d.Ok := ⟨a1, a2, by omega⟩
  have hi := Dk.drawA_in (d := d) h1
  refine ⟨(d.drawA b).1.toNat, (d.drawA b).2, fun S rest => ?_, ?_, ?_⟩
  · rw [draw_A ok h1 (by omega)]
    rw [Int.toNat_of_nonneg hi.1]
  · rw [Int.toNat_of_nonneg hi.1]; exact hi.2
  · have := Dk.drawA_ok ok (b := b) (n + 1) (by omega) (by omega)
    have e := Dk.drawA_at (d := d) (b := b)
    exact ⟨this.len, this.lo, by rw [e]; omega⟩
theorem hA_app (S : List D) (d : Dk) (rest x : AH) : hA S d rest ++ x = hA S d (rest ++ x) := rfl
theorem hA_length (S : List D) (d : Dk) (rest : AH) : (hA S d rest).length = rest.length + 3 := rfl
theorem hA_get (S : List D) (d : Dk) (rest : AH) (i : Nat) : (hA S d rest)[i + 3]? = rest[i]? := rfl
/-- the heap without the deck -/
def dead (rest : AH) : AH := .ins 0 [] :: .ins 0 [] :: .ins 0 [] :: rest
theorem dead_le {S : List D} {d : Dk} {rest x : AH} : Le (dead rest) (hA S d (rest ++ x)) := fun i o e v => by
  match i with
  | 0 => simp [dead] at e; subst e; cases v
  | 1 => simp [dead] at e; subst e; cases v
  | 2 => simp [dead] at e; subst e; cases v
  | i + 3 =>
    rw [hA_get]
    have e' : rest[i]? = some o := e
    rw [List.getElem?_append_left (List.getElem?_eq_some_iff.mp e').1]
    exact e'
theorem dead_le0 {S : List D} {d : Dk} {rest : AH} : Le (dead rest) (hA S d rest) := by
  have := dead_le (S := S) (d := d) (rest := rest) (x := [])
  rwa [List.append_nil] at this
theorem dead_app {rest x : AH} : Le (dead rest) (dead (rest ++ x)) := Le.app (dead rest) x
theorem dead_get (rest : AH) (i : Nat) : (dead rest)[i + 3]? = rest[i]? := rfl
/-! making the deck -/
def b_deckA : SM := (sSeq (sAsg (eNew (e1 (e3 (eVar 0) (oPart none) (oPart (some (eC (.int 63)))) fun d lo hi ah => (listOf d ah).bind fun ds ah => lCut ds lo hi ah) sList)) (gSet 1)) (sRet (eDisp [((eC (.str "cells")), (eVar 1)), ((eC (.str "at")), (eC (.int 0))), ((eC (.str "sum")), (e2 (e2 (e1 (e1 (eVar 1) listOf) sSum) (eC (.int 2147483629)) oMod) (e2 (eC (.int 17)) (e1 (aCons (eVar 1) aNil) oLenA) oMul) oAdd))])))
def m_deckA : List D → AH → Res D := fnM 2 1 b_deckA
def dkA (ns : List Int) : Dk := ⟨ns, 0, ns.sum % 2147483629 + 17 * ns.length⟩
theorem dkA_ok {ns : List Int} (h : ns.length ≤ 63) : DOk 0 (dkA ns) := ⟨by show ns.length ≤ 64; omega, Int.le_refl _, Int.le_refl _⟩
theorem optAll_dInt : ∀ ns : List Int, optAll dInt (ns.map D.int) = some ns
  | [] => rfl
  | n :: ns => by simp [optAll, optAll_dInt ns, dInt]
theorem deck_A {ns : List Int} (h : ns.length ≤ 63) : m_deckA [.ref 0] (ah0 ns) = .ok (.ref 2) (hA (ns.map D.int) (dkA ns) []) := by
  have c1 : cut (ns.map D.int) none (some 63) = ns.map D.int := by
    unfold cut
    rw [HT.sIx_none, show (63 : Int) = ((63 : Nat) : Int) from rfl, HT.sIx_nat, List.drop_zero, List.take_of_length_le (by simp; omega)]
  have md : ∀ (i : Int) (ah : AH), oMod (.int i) (.int 2147483629) ah = .ok (.int (i % 2147483629)) ah := fun i ah => oMod_int ah (by decide)
  have ml : ∀ (ah : AH), oMul (.int 17) (.int ns.length) ah = .ok (.int (17 * ns.length)) ah := fun ah => oMul_int ah (by decide) (by omega)
  have n1 : ¬ (Str.ofString "cells" = Str.ofString "at") := by decide
  have n2 : ¬ (Str.ofString "cells" = Str.ofString "sum") := by decide
  have n3 : ¬ (Str.ofString "at" = Str.ofString "sum") := by decide
  unfold m_deckA b_deckA
  rw [fnM_1]
  simp [listOf, listAt, lCut, c1, sList, sSum, optAll_dInt, md, oLenA, oLen, ml, optAll, dKey, dispD, putD, n1, n2, n3]
  unfold fin
  simp [sound, D.und, AObj.und, D.unds, hA, dkA]
end HA

namespace HL
open PySem PySem.Spec PyProof.Rows L2 HA
def top (i : Nat) : Stmt := PySem.Challenge.pw_heldaddresses_k04_numbers_and_addresses.main.body.getD i (.Pass ⟨0, 0, 0, 0⟩)
abbrev s_is_whole : Stmt := top 3
abbrev s_is_within : Stmt := top 4
abbrev s_is_number : Stmt := top 5
abbrev s_is_address : Stmt := top 6
abbrev s__law_deck : Stmt := top 8
abbrev s__law_draw : Stmt := top 9
abbrev s__law_whole : Stmt := top 11
abbrev s__law_other : Stmt := top 12
abbrev s__law_spoilt : Stmt := top 13
abbrev s__law_is_whole : Stmt := top 14
abbrev s__law_is_address : Stmt := top 15
abbrev s__law_right : Stmt := top 16
abbrev s_law : Stmt := top 17
def c_NUMBERS : D := .int 1000
def c_NO_ROOM : D := .int (-1)
structure Txt (K : PySem.W.Frag) (mg : Str → Option Value) where
  is_whole : TF K mg "is_whole" s_is_whole ["thing"]
  is_within : TF K mg "is_within" s_is_within ["thing", "least", "most"]
  is_number : TF K mg "is_number" s_is_number ["thing"]
  is_address : TF K mg "is_address" s_is_address ["thing"]
  _law_deck : TF K mg "_law_deck" s__law_deck ["_law_script"]
  _law_draw : TF K mg "_law_draw" s__law_draw ["_law_deck_here", "_law_bound"]
  _law_whole : TF K mg "_law_whole" s__law_whole ["_law_deck_here"]
  _law_other : TF K mg "_law_other" s__law_other ["_law_deck_here", "_law_it"]
  _law_spoilt : TF K mg "_law_spoilt" s__law_spoilt ["_law_deck_here", "_law_it"]
  _law_is_whole : TF K mg "_law_is_whole" s__law_is_whole ["_law_it", "_law_least"]
  _law_is_address : TF K mg "_law_is_address" s__law_is_address ["_law_it"]
  _law_right : TF K mg "_law_right" s__law_right ["_law_it"]
  law : TF K mg "law" s_law ["_law_script"]
  n_bool : mg "bool" = none
  n_int : mg "int" = none
  n_isinstance : mg "isinstance" = none
  n_len : mg "len" = none
  n_list : mg "list" = none
  n_range : mg "range" = none
  n_repr : mg "repr" = none
  n_str : mg "str" = none
  n_sum : mg "sum" = none
  n_tuple : mg "tuple" = none
  c_NUMBERS : ∃ u, mg "NUMBERS" = some u ∧ CR K u c_NUMBERS
  c_NO_ROOM : ∃ u, mg "NO_ROOM" = some u ∧ CR K u c_NO_ROOM
section
variable {P : Program} {w : World} {K : PySem.W.Frag} {mg : Str → Option Value} {base : Heap}
theorem sc_is_whole : FnScope ["thing"] ["thing"] (defScope s_is_whole) := ⟨rfl, rfl, rfl, by decide +kernel, rfl, by decide +kernel, by decide +kernel⟩
def b_is_whole : SM := (sRet (eAnd (e1 (aCons (eVar 0) (aCons (eC (.cst (.ty "int"))) aNil)) oIsi) (eNot (e1 (aCons (eVar 0) (aCons (eC (.cst (.ty "bool"))) aNil)) oIsi))))
def m_is_whole : List D → AH → Res D := fnM 1 1 b_is_whole
theorem ok_is_whole (T : Txt K mg) : FnG P w K mg base 1 T.is_whole.a T.is_whole.fd ["thing"] m_is_whole := by
  refine fnG T.is_whole.F sc_is_whole (fun cdv A lo s H E hr => ?_)
  exact (pzs_one (pz_ret (pd_and (pd_callB cd_isi rfl T.n_isinstance (by decide +kernel) (pas_cons (pd_var 0) (pas_cons (pd_ty rfl T.n_int (by decide +kernel)) pas_nil))) (pd_one (pd_not (pd_callB cd_isi rfl T.n_isinstance (by decide +kernel) (pas_cons (pd_var 0) (pas_cons (pd_ty rfl T.n_bool (by decide +kernel)) pas_nil))))))))
theorem sc_is_within : FnScope ["thing", "least", "most"] ["thing", "least", "most"] (defScope s_is_within) := ⟨rfl, rfl, rfl, by decide +kernel, rfl, by decide +kernel, by decide +kernel⟩
def b_is_within : SM := (sRet (eAnd (e1 (aCons (eVar 0) aNil) m_is_whole) (eB (bChain (eVar 1) (eVar 0) (eVar 2) cLe cLe))))
def m_is_within : List D → AH → Res D := fnM 3 3 b_is_within
theorem ok_is_within (T : Txt K mg) : FnG P w K mg base 2 T.is_within.a T.is_within.fd ["thing", "least", "most"] m_is_within := by
  have H_is_whole : FnG P w K mg base 1 T.is_whole.a T.is_whole.fd ["thing"] (m_is_whole) := (ok_is_whole T).mono (by omega)
  refine fnG T.is_within.F sc_is_within (fun cdv A lo s H E hr => ?_)
  exact (pzs_one (pz_ret (pd_and (pd_call H_is_whole hr rfl T.is_whole.g T.is_whole.k T.is_whole.b (takes_of rfl rfl rfl rfl) (pas_cons (pd_var 0) pas_nil) (many_cons many_nil)) (pd_one (pd_chain od_le od_le (pd_var 1) (pd_var 0) (pd_var 2))))))
theorem sc_is_number : FnScope ["thing"] ["thing"] (defScope s_is_number) := ⟨rfl, rfl, rfl, by decide +kernel, rfl, by decide +kernel, by decide +kernel⟩
def b_is_number : SM := (sRet (e1 (aCons (eVar 0) (aCons (eC (.int 0)) (aCons (e2 (eC c_NUMBERS) (eC (.int 1)) oSub) aNil))) m_is_within))
def m_is_number : List D → AH → Res D := fnM 1 1 b_is_number
theorem ok_is_number (T : Txt K mg) : FnG P w K mg base 3 T.is_number.a T.is_number.fd ["thing"] m_is_number := by
  have H_is_within : FnG P w K mg base 2 T.is_within.a T.is_within.fd ["thing", "least", "most"] (m_is_within) := (ok_is_within T).mono (by omega)
  refine fnG T.is_number.F sc_is_number (fun cdv A lo s H E hr => ?_)
  exact (pzs_one (pz_ret (pd_call H_is_within hr rfl T.is_within.g T.is_within.k T.is_within.b (takes_of rfl rfl rfl rfl) (pas_cons (pd_var 0) (pas_cons pd_int (pas_cons (pd_op od_sub (pd_const rfl T.c_NUMBERS) pd_int) pas_nil))) (many_cons (many_cons (many_cons many_nil))))))
theorem sc_is_address : FnScope ["thing", "whence", "place"] ["thing"] (defScope s_is_address) := ⟨rfl, rfl, rfl, by decide +kernel, rfl, by decide +kernel, by decide +kernel⟩
def b_is_address : SM := (sSeq (sIf (bOr (bNot (e1 (e1 (aCons (eVar 0) (aCons (eC (.cst (.ty "tuple"))) aNil)) oIsi) truth)) (e2 (e1 (aCons (eVar 0) aNil) oLenA) (eC (.int 2)) cNe)) (sRet (eC (.bl false))) sSkip) (sSeq (sAsg (eVar 0) (gTupD 2 (gConsD (gSet 1) (gConsD (gSet 2) gNilD)))) (sRet (eAnd (e1 (aCons (eVar 1) aNil) m_is_whole) (eAnd (eB (e2 (eVar 1) (eC c_NO_ROOM) cGe)) (e1 (aCons (eVar 2) aNil) m_is_number))))))
def m_is_address : List D → AH → Res D := fnM 3 1 b_is_address
theorem ok_is_address (T : Txt K mg) : FnG P w K mg base 4 T.is_address.a T.is_address.fd ["thing"] m_is_address := by
  have H_is_whole : FnG P w K mg base 3 T.is_whole.a T.is_whole.fd ["thing"] (m_is_whole) := (ok_is_whole T).mono (by omega)
  have H_is_number : FnG P w K mg base 3 T.is_number.a T.is_number.fd ["thing"] (m_is_number) := (ok_is_number T).mono (by omega)
  refine fnG T.is_address.F sc_is_address (fun cdv A lo s H E hr => ?_)
  exact (pzs_cons (pz_if (pbw (pbw_or (pb_not (pb_val (pd_callB cd_isi rfl T.n_isinstance (by decide +kernel) (pas_cons (pd_var 0) (pas_cons (pd_ty rfl T.n_tuple (by decide +kernel)) pas_nil))))) (pbw_or1 (pb_cmp (od_ne hr) (pd_callB cd_len rfl T.n_len (by decide +kernel) (pas_cons (pd_var 0) pas_nil)) pd_int)))) (pzs_one (pz_ret pd_bl)) pzs_nil)
    (pzs_cons (pz_asg (pd_var 0) (pt_tup rfl (ptn_cons (pt_name sc_is_address.nd rfl (by first | exact Or.inl rfl | exact Or.inr rfl)) (ptn_cons (pt_name sc_is_address.nd rfl (by first | exact Or.inl rfl | exact Or.inr rfl)) ptn_nil))))
    (pzs_one (pz_ret (pd_and (pd_call H_is_whole hr rfl T.is_whole.g T.is_whole.k T.is_whole.b (takes_of rfl rfl rfl rfl) (pas_cons (pd_var 1) pas_nil) (many_cons many_nil)) (pd_and (pd_cmp od_ge (pd_var 1) (pd_const rfl T.c_NO_ROOM)) (pd_one (pd_call H_is_number hr rfl T.is_number.g T.is_number.k T.is_number.b (takes_of rfl rfl rfl rfl) (pas_cons (pd_var 2) pas_nil) (many_cons many_nil)))))))))
theorem sc__law_deck : FnScope ["_law_script", "_law_cells"] ["_law_script"] (defScope s__law_deck) := ⟨rfl, rfl, rfl, by decide +kernel, rfl, by decide +kernel, by decide +kernel⟩
def b__law_deck : SM := (sSeq (sAsg (eNew (e1 (e3 (eVar 0) (oPart none) (oPart (some (eC (.int 63)))) fun d lo hi ah => (listOf d ah).bind fun ds ah => lCut ds lo hi ah) sList)) (gSet 1)) (sRet (eDisp [((eC (.str "cells")), (eVar 1)), ((eC (.str "at")), (eC (.int 0))), ((eC (.str "sum")), (e2 (e2 (e1 (e1 (eVar 1) listOf) sSum) (eC (.int 2147483629)) oMod) (e2 (eC (.int 17)) (e1 (aCons (eVar 1) aNil) oLenA) oMul) oAdd))])))
def m__law_deck : List D → AH → Res D := fnM 2 1 b__law_deck
theorem ok__law_deck (T : Txt K mg) : FnG P w K mg base 1 T._law_deck.a T._law_deck.fd ["_law_script"] m__law_deck := by
  refine fnG T._law_deck.F sc__law_deck (fun cdv A lo s H E hr => ?_)
  exact (pzs_cons (pz_set sc__law_deck.nd rfl (by first | exact Or.inl rfl | exact Or.inr rfl) (pd_new (pg_callST cs_list rfl T.n_list (by decide +kernel) (pq_l (pl_cut (pd_var 0) pp_none (pp_some pd_int))))))
    (pzs_one (pz_ret (pd_disp (.cons pd_str (pd_var 1) (.cons pd_str pd_int (.cons pd_str (pd_op od_add (pd_op od_mod (pg_callSB (cs_sum rfl) rfl T.n_sum (by decide +kernel) (pm_d (pd_var 1))) pd_int) (pd_op od_mul pd_int (pd_callB cd_len rfl T.n_len (by decide +kernel) (pas_cons (pd_var 1) pas_nil)))) PDs.nil)))))))
theorem sc__law_draw : FnScope ["_law_deck_here", "_law_bound", "_law_at", "_law_cells", "_law_seed", "_law_number"] ["_law_deck_here", "_law_bound"] (defScope s__law_draw) := ⟨rfl, rfl, rfl, by decide +kernel, rfl, by decide +kernel, by decide +kernel⟩
def b__law_draw : SM := (sSeq (sPut (eVar 0) (eC (.str "at")) (e2 (e2 (eVar 0) (eC (.str "at")) oGet) (eC (.int 1)) oAdd)) (sSeq (sAsg (e2 (eVar 0) (eC (.str "at")) oGet) (gSet 2)) (sSeq (sAsg (e2 (eVar 0) (eC (.str "cells")) oGet) (gSet 3)) (sSeq (sAsg (e2 (e2 (eVar 0) (eC (.str "sum")) oGet) (eVar 2) oAddA) (gSet 4)) (sSeq (sIf (bNil true (e1 (eVar 3) listOf)) (sSeq (sAsg (eMt (eVar 3) (aCons (eC (.int 0)) aNil) mPop) (gSet 4)) (sIf (e2 (eVar 4) (e2 (eC (.int 10)) (eC (.int 18)) oPow) cGe) (sSeq (sExpr (eMt (eVar 3) (aCons (eC (.int 0)) (aCons (e2 (eVar 4) (eVar 1) oFdiv) aNil)) mInsert)) (sRet (e2 (eVar 4) (eVar 1) oMod))) sSkip)) sSkip) (sSeq (sAsg (e2 (e2 (e2 (e2 (e2 (eVar 4) (eC (.int 2147483647)) oMod) (eC (.int 48271)) oMul) (e2 (e2 (eC (.int 69621)) (eVar 2) oMul) (eVar 2) oMul) oAdd) (eC (.int 7919)) oAdd) (eC (.int 2147483629)) oMod) (gSet 5)) (sSeq (sAsg (e2 (e2 (eVar 5) (eVar 5) oMul) (eC (.int 2147483587)) oMod) (gSet 5)) (sRet (e2 (e2 (e2 (e2 (eVar 5) (e2 (eVar 5) (eC (.int 39373)) oAdd) oMul) (eC (.int 2147483563)) oMod) (eC (.int 64)) oFdiv) (eVar 1) oMod)))))))))
def m__law_draw : List D → AH → Res D := fnM 6 2 b__law_draw
theorem ok__law_draw (T : Txt K mg) : FnG P w K mg base 1 T._law_draw.a T._law_draw.fd ["_law_deck_here", "_law_bound"] m__law_draw := by
  refine fnG T._law_draw.F sc__law_draw (fun cdv A lo s H E hr => ?_)
  exact (pzs_cons (pz_put hr (pd_var 0) pd_str (pd_op od_add (pd_get hr (pd_var 0) pd_str) pd_int))
    (pzs_cons (pz_set sc__law_draw.nd rfl (by first | exact Or.inl rfl | exact Or.inr rfl) (pd_get hr (pd_var 0) pd_str))
    (pzs_cons (pz_set sc__law_draw.nd rfl (by first | exact Or.inl rfl | exact Or.inr rfl) (pd_get hr (pd_var 0) pd_str))
    (pzs_cons (pz_set sc__law_draw.nd rfl (by first | exact Or.inl rfl | exact Or.inr rfl) (pd_op od_addA (pd_get hr (pd_var 0) pd_str) (pd_var 2)))
    (pzs_cons (pz_if (pb_notNil hr (pm_d (pd_var 3))) (pzs_cons (pz_set sc__law_draw.nd rfl (by first | exact Or.inl rfl | exact Or.inr rfl) (pd_ml PySem.F.plainAttrs_list PySem.F.slot_list_pop PySem.F.type_list_pop md_pop (pd_var 3) (pas_cons pd_int pas_nil)))
    (pzs_one (pz_if (pb_cmp od_ge (pd_var 4) (pd_op od_pow pd_int pd_int)) (pzs_cons (pz_expr (pd_ml PySem.F.plainAttrs_list PySem.F.slot_list_insert PySem.F.type_list_insert md_insert (pd_var 3) (pas_cons pd_int (pas_cons (pd_op od_fdiv (pd_var 4) (pd_var 1)) pas_nil))))
    (pzs_one (pz_ret (pd_op od_mod (pd_var 4) (pd_var 1))))) pzs_nil))) pzs_nil)
    (pzs_cons (pz_set sc__law_draw.nd rfl (by first | exact Or.inl rfl | exact Or.inr rfl) (pd_op od_mod (pd_op od_add (pd_op od_add (pd_op od_mul (pd_op od_mod (pd_var 4) pd_int) pd_int) (pd_op od_mul (pd_op od_mul pd_int (pd_var 2)) (pd_var 2))) pd_int) pd_int))
    (pzs_cons (pz_set sc__law_draw.nd rfl (by first | exact Or.inl rfl | exact Or.inr rfl) (pd_op od_mod (pd_op od_mul (pd_var 5) (pd_var 5)) pd_int))
    (pzs_one (pz_ret (pd_op od_mod (pd_op od_fdiv (pd_op od_mod (pd_op od_mul (pd_var 5) (pd_op od_add (pd_var 5) pd_int)) pd_int) pd_int) (pd_var 1)))))))))))
theorem sc__law_whole : FnScope ["_law_deck_here", "_law_some"] ["_law_deck_here"] (defScope s__law_whole) := ⟨rfl, rfl, rfl, by decide +kernel, rfl, by decide +kernel, by decide +kernel⟩
def b__law_whole : SM := (sSeq (sAsg (eNew (lLst (aCons (eC (.int 0)) (aCons (eC (.int 1)) (aCons (e1 (eC (.int 1)) oNeg) (aCons (e1 (eC (.int 2)) oNeg) (aCons (eC (.int 998)) (aCons (eC (.int 999)) (aCons (eC (.int 1000)) (aCons (eC (.int 1001)) (aCons (e2 (eC (.int 10)) (eC (.int 39)) oPow) (aCons (e2 (eC (.int 0)) (e2 (eC (.int 10)) (eC (.int 39)) oPow) oSub) (aCons (e1 (aCons (eVar 0) (aCons (eC (.int 1000)) aNil)) m__law_draw) (aCons (e1 (aCons (eVar 0) (aCons (e2 (eC (.int 10)) (eC (.int 6)) oPow) aNil)) m__law_draw) aNil)))))))))))))) (gSet 1)) (sRet (e2 (eVar 1) (e1 (aCons (eVar 0) (aCons (eC (.int 12)) aNil)) m__law_draw) oIx)))
def m__law_whole : List D → AH → Res D := fnR 2 1 b__law_whole
theorem ok__law_whole (T : Txt K mg) : FnG P w K mg base 2 T._law_whole.a T._law_whole.fd ["_law_deck_here"] m__law_whole := by
  have H__law_draw : FnG P w K mg base 1 T._law_draw.a T._law_draw.fd ["_law_deck_here", "_law_bound"] (m__law_draw) := (ok__law_draw T).mono (by omega)
  refine fnG_R T._law_whole.F sc__law_whole (fun cdv A lo s H E hr => ?_)
  exact (pzs_cons (pz_set sc__law_whole.nd rfl (by first | exact Or.inl rfl | exact Or.inr rfl) (pd_new (pl_lst (pas_cons pd_int (pas_cons pd_int (pas_cons (pd_neg pd_int) (pas_cons (pd_neg pd_int) (pas_cons pd_int (pas_cons pd_int (pas_cons pd_int (pas_cons pd_int (pas_cons (pd_op od_pow pd_int pd_int) (pas_cons (pd_op od_sub pd_int (pd_op od_pow pd_int pd_int)) (pas_cons (pd_call H__law_draw hr rfl T._law_draw.g T._law_draw.k T._law_draw.b (takes_of rfl rfl rfl rfl) (pas_cons (pd_var 0) (pas_cons pd_int pas_nil)) (many_cons (many_cons many_nil))) (pas_cons (pd_call H__law_draw hr rfl T._law_draw.g T._law_draw.k T._law_draw.b (takes_of rfl rfl rfl rfl) (pas_cons (pd_var 0) (pas_cons (pd_op od_pow pd_int pd_int) pas_nil)) (many_cons (many_cons many_nil))) pas_nil)))))))))))))))
    (pzs_one (pz_ret (pd_ix (pd_var 1) (pd_call H__law_draw hr rfl T._law_draw.g T._law_draw.k T._law_draw.b (takes_of rfl rfl rfl rfl) (pas_cons (pd_var 0) (pas_cons pd_int pas_nil)) (many_cons (many_cons many_nil)))))))
theorem sc__law_other : FnScope ["_law_deck_here", "_law_it", "_law_way", "_law_at", "_law_some"] ["_law_deck_here", "_law_it"] (defScope s__law_other) := ⟨rfl, rfl, rfl, by decide +kernel, rfl, by decide +kernel, by decide +kernel⟩
def b__law_other : SM := (sSeq (sAsg (e1 (aCons (eVar 0) (aCons (eC (.int 8)) aNil)) m__law_draw) (gSet 2)) (sSeq (sIf (e2 (eVar 2) (eC (.int 0)) cEq) (sRet (e2 (lLst (aCons (eC .non) (aCons (eC (.bl true)) (aCons (eC (.bl false)) (aCons (eC (.str "")) (aCons (eC (.str "0")) (aCons (eC (.str "a")) (aCons (eNew (lLst aNil)) (aCons eDnew (aCons (eTup aNil) (aCons (eTup (aCons (eC (.int 0)) aNil)) (aCons (eC (.int 0)) (aCons (e1 (eC (.int 1)) oNeg) aNil))))))))))))) (e1 (aCons (eVar 0) (aCons (eC (.int 12)) aNil)) m__law_draw) lIx)) sSkip) (sSeq (sIf (bAnd (e1 (e1 (aCons (eVar 1) (aCons (eC (.cst (.ty "tuple"))) aNil)) oIsi) truth) (e2 (eVar 1) (eTup aNil) cNe)) (sSeq (sAsg (e1 (aCons (eVar 0) (aCons (e1 (aCons (eVar 1) aNil) oLenA) aNil)) m__law_draw) (gSet 3)) (sSeq (sAsg (eNew (lLst (aCons (e2 (e3 (eVar 1) (oPart none) (oPart (some (eVar 3))) oCut) (e3 (eVar 1) (oPart (some (e2 (eVar 3) (eC (.int 1)) oAdd))) (oPart none) oCut) oAdd) (aCons (e2 (e3 (eVar 1) (oPart none) (oPart (some (e2 (eVar 3) (eC (.int 1)) oAdd))) oCut) (e3 (eVar 1) (oPart (some (eVar 3))) (oPart none) oCut) oAdd) (aCons (e1 (eVar 1) oRevT) (aCons (eNew (e1 (e1 (eVar 1) seqOf) sList)) (aCons (e2 (eVar 1) (eVar 3) oIx) (aCons (e2 (eVar 1) (eTup (aCons (eC (.int 0)) aNil)) oAdd) (aCons (eTup (aCons (eVar 1) aNil)) aNil))))))))) (gSet 4)) (sRet (e2 (eVar 4) (e2 (eVar 2) (eC (.int 1)) oSub) oIx)))) sSkip) (sSeq (sIf (e1 (e1 (aCons (eVar 1) (aCons (eC (.cst (.ty "int"))) aNil)) oIsi) truth) (sRet (e2 (lLst (aCons (e2 (eVar 1) (eC (.int 1)) oAdd) (aCons (e2 (eVar 1) (eC (.int 1)) oSub) (aCons (e2 (e1 (eC (.int 1)) oNeg) (eVar 1) oSub) (aCons (eB (e2 (eVar 1) (eC (.int 1)) cEq)) (aCons (e1 (aCons (eVar 1) aNil) oStr) (aCons (eTup (aCons (eVar 1) aNil)) (aCons (eNew (lLst (aCons (eVar 1) aNil))) aNil)))))))) (e2 (eVar 2) (eC (.int 1)) oSub) lIx)) sSkip) (sRet (eTup (aCons (e1 (aCons (eVar 0) (aCons (eC (.int 3)) aNil)) m__law_draw) aNil)))))))
def m__law_other : List D → AH → Res D := fnR 5 2 b__law_other
theorem ok__law_other (T : Txt K mg) : FnG P w K mg base 2 T._law_other.a T._law_other.fd ["_law_deck_here", "_law_it"] m__law_other := by
  have H__law_draw : FnG P w K mg base 1 T._law_draw.a T._law_draw.fd ["_law_deck_here", "_law_bound"] (m__law_draw) := (ok__law_draw T).mono (by omega)
  refine fnG_R T._law_other.F sc__law_other (fun cdv A lo s H E hr => ?_)
  exact (pzs_cons (pz_set sc__law_other.nd rfl (by first | exact Or.inl rfl | exact Or.inr rfl) (pd_call H__law_draw hr rfl T._law_draw.g T._law_draw.k T._law_draw.b (takes_of rfl rfl rfl rfl) (pas_cons (pd_var 0) (pas_cons pd_int pas_nil)) (many_cons (many_cons many_nil))))
    (pzs_cons (pz_if (pb_cmp (od_eq hr) (pd_var 2) pd_int) (pzs_one (pz_ret (pd_ixL (pl_lst (pas_cons pd_non (pas_cons pd_bl (pas_cons pd_bl (pas_cons pd_str (pas_cons pd_str (pas_cons pd_str (pas_cons (pd_new (pl_lst pas_nil)) (pas_cons pd_dnew (pas_cons (pd_tup pas_nil) (pas_cons (pd_tup (pas_cons pd_int pas_nil)) (pas_cons pd_int (pas_cons (pd_neg pd_int) pas_nil))))))))))))) (pd_call H__law_draw hr rfl T._law_draw.g T._law_draw.k T._law_draw.b (takes_of rfl rfl rfl rfl) (pas_cons (pd_var 0) (pas_cons pd_int pas_nil)) (many_cons (many_cons many_nil)))))) pzs_nil)
    (pzs_cons (pz_if (pbw (pbw_and (pb_val (pd_callB cd_isi rfl T.n_isinstance (by decide +kernel) (pas_cons (pd_var 1) (pas_cons (pd_ty rfl T.n_tuple (by decide +kernel)) pas_nil)))) (pbw_and1 (pb_cmp (od_ne hr) (pd_var 1) (pd_tup pas_nil))))) (pzs_cons (pz_set sc__law_other.nd rfl (by first | exact Or.inl rfl | exact Or.inr rfl) (pd_call H__law_draw hr rfl T._law_draw.g T._law_draw.k T._law_draw.b (takes_of rfl rfl rfl rfl) (pas_cons (pd_var 0) (pas_cons (pd_callB cd_len rfl T.n_len (by decide +kernel) (pas_cons (pd_var 1) pas_nil)) pas_nil)) (many_cons (many_cons many_nil))))
    (pzs_cons (pz_set sc__law_other.nd rfl (by first | exact Or.inl rfl | exact Or.inr rfl) (pd_new (pl_lst (pas_cons (pd_op od_add (pd_cut (pd_var 1) pp_none (pp_some (pd_var 3))) (pd_cut (pd_var 1) (pp_some (pd_op od_add (pd_var 3) pd_int)) pp_none)) (pas_cons (pd_op od_add (pd_cut (pd_var 1) pp_none (pp_some (pd_op od_add (pd_var 3) pd_int))) (pd_cut (pd_var 1) (pp_some (pd_var 3)) pp_none)) (pas_cons (pd_revT (pd_var 1)) (pas_cons (pd_new (pg_callST cs_list rfl T.n_list (by decide +kernel) (pq_d (pd_var 1)))) (pas_cons (pd_ix (pd_var 1) (pd_var 3)) (pas_cons (pd_op od_add (pd_var 1) (pd_tup (pas_cons pd_int pas_nil))) (pas_cons (pd_tup (pas_cons (pd_var 1) pas_nil)) pas_nil))))))))))
    (pzs_one (pz_ret (pd_ix (pd_var 4) (pd_op od_sub (pd_var 2) pd_int)))))) pzs_nil)
    (pzs_cons (pz_if (pb_val (pd_callB cd_isi rfl T.n_isinstance (by decide +kernel) (pas_cons (pd_var 1) (pas_cons (pd_ty rfl T.n_int (by decide +kernel)) pas_nil)))) (pzs_one (pz_ret (pd_ixL (pl_lst (pas_cons (pd_op od_add (pd_var 1) pd_int) (pas_cons (pd_op od_sub (pd_var 1) pd_int) (pas_cons (pd_op od_sub (pd_neg pd_int) (pd_var 1)) (pas_cons (pd_cmp (od_eq hr) (pd_var 1) pd_int) (pas_cons (pd_callT cd_str rfl T.n_str (by decide +kernel) (pas_cons (pd_var 1) pas_nil)) (pas_cons (pd_tup (pas_cons (pd_var 1) pas_nil)) (pas_cons (pd_new (pl_lst (pas_cons (pd_var 1) pas_nil))) pas_nil)))))))) (pd_op od_sub (pd_var 2) pd_int)))) pzs_nil)
    (pzs_one (pz_ret (pd_tup (pas_cons (pd_call H__law_draw hr rfl T._law_draw.g T._law_draw.k T._law_draw.b (takes_of rfl rfl rfl rfl) (pas_cons (pd_var 0) (pas_cons pd_int pas_nil)) (many_cons (many_cons many_nil))) pas_nil))))))))
theorem sc__law_spoilt : FnScope ["_law_deck_here", "_law_it", "_law_at"] ["_law_deck_here", "_law_it"] (defScope s__law_spoilt) := ⟨rfl, rfl, rfl, by decide +kernel, rfl, by decide +kernel, by decide +kernel⟩
def b__law_spoilt (r__law_spoilt : List D → AH → Res D) : SM := (sSeq (sIf (bOr (bNot (e1 (e1 (aCons (eVar 1) (aCons (eC (.cst (.ty "tuple"))) aNil)) oIsi) truth)) (bOr (e2 (eVar 1) (eTup aNil) cEq) (e2 (e1 (aCons (eVar 0) (aCons (eC (.int 3)) aNil)) m__law_draw) (eC (.int 0)) cEq))) (sRet (e1 (aCons (eVar 0) (aCons (eVar 1) aNil)) m__law_other)) sSkip) (sSeq (sAsg (e1 (aCons (eVar 0) (aCons (e1 (aCons (eVar 1) aNil) oLenA) aNil)) m__law_draw) (gSet 2)) (sRet (e2 (e2 (e3 (eVar 1) (oPart none) (oPart (some (eVar 2))) oCut) (eTup (aCons (e1 (aCons (eVar 0) (aCons (e2 (eVar 1) (eVar 2) oIx) aNil)) r__law_spoilt) aNil)) oAdd) (e3 (eVar 1) (oPart (some (e2 (eVar 2) (eC (.int 1)) oAdd))) (oPart none) oCut) oAdd))))
def m__law_spoilt : Nat → List D → AH → Res D
  | 0 => fun _ _ => .stuck
  | n + 1 => fnR 3 2 (b__law_spoilt (m__law_spoilt n))
theorem ok__law_spoilt (T : Txt K mg) : ∀ n : Nat, FnG P w K mg base (2 + n) T._law_spoilt.a T._law_spoilt.fd ["_law_deck_here", "_law_it"] (m__law_spoilt n)
  | 0 => fnG_stuck
  | n + 1 => by
    have R__law_spoilt := ok__law_spoilt T n
    have H__law_draw : FnG P w K mg base (2 + n) T._law_draw.a T._law_draw.fd ["_law_deck_here", "_law_bound"] (m__law_draw) := (ok__law_draw T).mono (by omega)
    have H__law_other : FnG P w K mg base (2 + n) T._law_other.a T._law_other.fd ["_law_deck_here", "_law_it"] (m__law_other) := (ok__law_other T).mono (by omega)
    refine fnG_R T._law_spoilt.F sc__law_spoilt (fun cdv A lo s H E hr => ?_)
    exact (pzs_cons (pz_if (pbw (pbw_or (pb_not (pb_val (pd_callB cd_isi rfl T.n_isinstance (by decide +kernel) (pas_cons (pd_var 1) (pas_cons (pd_ty rfl T.n_tuple (by decide +kernel)) pas_nil))))) (pbw_or (pb_cmp (od_eq hr) (pd_var 1) (pd_tup pas_nil)) (pbw_or1 (pb_cmp (od_eq hr) (pd_call H__law_draw hr rfl T._law_draw.g T._law_draw.k T._law_draw.b (takes_of rfl rfl rfl rfl) (pas_cons (pd_var 0) (pas_cons pd_int pas_nil)) (many_cons (many_cons many_nil))) pd_int))))) (pzs_one (pz_ret (pd_call H__law_other hr rfl T._law_other.g T._law_other.k T._law_other.b (takes_of rfl rfl rfl rfl) (pas_cons (pd_var 0) (pas_cons (pd_var 1) pas_nil)) (many_cons (many_cons many_nil))))) pzs_nil)
    (pzs_cons (pz_set sc__law_spoilt.nd rfl (by first | exact Or.inl rfl | exact Or.inr rfl) (pd_call H__law_draw hr rfl T._law_draw.g T._law_draw.k T._law_draw.b (takes_of rfl rfl rfl rfl) (pas_cons (pd_var 0) (pas_cons (pd_callB cd_len rfl T.n_len (by decide +kernel) (pas_cons (pd_var 1) pas_nil)) pas_nil)) (many_cons (many_cons many_nil))))
    (pzs_one (pz_ret (pd_op od_add (pd_op od_add (pd_cut (pd_var 1) pp_none (pp_some (pd_var 2))) (pd_tup (pas_cons (pd_call R__law_spoilt hr rfl T._law_spoilt.g T._law_spoilt.k T._law_spoilt.b (takes_of rfl rfl rfl rfl) (pas_cons (pd_var 0) (pas_cons (pd_ix (pd_var 1) (pd_var 2)) pas_nil)) (many_cons (many_cons many_nil))) pas_nil))) (pd_cut (pd_var 1) (pp_some (pd_op od_add (pd_var 2) pd_int)) pp_none))))))
theorem sc__law_is_whole : FnScope ["_law_it", "_law_least"] ["_law_it", "_law_least"] (defScope s__law_is_whole) := ⟨rfl, rfl, rfl, by decide +kernel, rfl, by decide +kernel, by decide +kernel⟩
def b__law_is_whole : SM := (sRet (eAnd (e1 (aCons (eVar 0) (aCons (eC (.cst (.ty "int"))) aNil)) oIsi) (eAnd (eNot (e1 (aCons (eVar 0) (aCons (eC (.cst (.ty "bool"))) aNil)) oIsi)) (eB (e2 (eVar 0) (eVar 1) cGe)))))
def m__law_is_whole : List D → AH → Res D := fnM 2 2 b__law_is_whole
theorem ok__law_is_whole (T : Txt K mg) : FnG P w K mg base 1 T._law_is_whole.a T._law_is_whole.fd ["_law_it", "_law_least"] m__law_is_whole := by
  refine fnG T._law_is_whole.F sc__law_is_whole (fun cdv A lo s H E hr => ?_)
  exact (pzs_one (pz_ret (pd_and (pd_callB cd_isi rfl T.n_isinstance (by decide +kernel) (pas_cons (pd_var 0) (pas_cons (pd_ty rfl T.n_int (by decide +kernel)) pas_nil))) (pd_and (pd_not (pd_callB cd_isi rfl T.n_isinstance (by decide +kernel) (pas_cons (pd_var 0) (pas_cons (pd_ty rfl T.n_bool (by decide +kernel)) pas_nil)))) (pd_one (pd_cmp od_ge (pd_var 0) (pd_var 1)))))))
theorem sc__law_is_address : FnScope ["_law_it"] ["_law_it"] (defScope s__law_is_address) := ⟨rfl, rfl, rfl, by decide +kernel, rfl, by decide +kernel, by decide +kernel⟩
def b__law_is_address : SM := (sSeq (sIf (bOr (bNot (e1 (e1 (aCons (eVar 0) (aCons (eC (.cst (.ty "tuple"))) aNil)) oIsi) truth)) (e2 (e1 (aCons (eVar 0) aNil) oLenA) (eC (.int 2)) cNe)) (sRet (eC (.bl false))) sSkip) (sRet (eAnd (e1 (aCons (e2 (eVar 0) (eC (.int 0)) oIx) (aCons (e1 (eC (.int 1)) oNeg) aNil)) m__law_is_whole) (eAnd (e1 (aCons (e2 (eVar 0) (eC (.int 1)) oIx) (aCons (eC (.int 0)) aNil)) m__law_is_whole) (eB (e2 (e2 (eVar 0) (eC (.int 1)) oIx) (eC (.int 1000)) cLt))))))
def m__law_is_address : List D → AH → Res D := fnM 1 1 b__law_is_address
theorem ok__law_is_address (T : Txt K mg) : FnG P w K mg base 2 T._law_is_address.a T._law_is_address.fd ["_law_it"] m__law_is_address := by
  have H__law_is_whole : FnG P w K mg base 1 T._law_is_whole.a T._law_is_whole.fd ["_law_it", "_law_least"] (m__law_is_whole) := (ok__law_is_whole T).mono (by omega)
  refine fnG T._law_is_address.F sc__law_is_address (fun cdv A lo s H E hr => ?_)
  exact (pzs_cons (pz_if (pbw (pbw_or (pb_not (pb_val (pd_callB cd_isi rfl T.n_isinstance (by decide +kernel) (pas_cons (pd_var 0) (pas_cons (pd_ty rfl T.n_tuple (by decide +kernel)) pas_nil))))) (pbw_or1 (pb_cmp (od_ne hr) (pd_callB cd_len rfl T.n_len (by decide +kernel) (pas_cons (pd_var 0) pas_nil)) pd_int)))) (pzs_one (pz_ret pd_bl)) pzs_nil)
    (pzs_one (pz_ret (pd_and (pd_call H__law_is_whole hr rfl T._law_is_whole.g T._law_is_whole.k T._law_is_whole.b (takes_of rfl rfl rfl rfl) (pas_cons (pd_ix (pd_var 0) pd_int) (pas_cons (pd_neg pd_int) pas_nil)) (many_cons (many_cons many_nil))) (pd_and (pd_call H__law_is_whole hr rfl T._law_is_whole.g T._law_is_whole.k T._law_is_whole.b (takes_of rfl rfl rfl rfl) (pas_cons (pd_ix (pd_var 0) pd_int) (pas_cons pd_int pas_nil)) (many_cons (many_cons many_nil))) (pd_one (pd_cmp od_lt (pd_ix (pd_var 0) pd_int) pd_int)))))))
theorem sc__law_right : FnScope ["_law_it", "_law_kept", "_law_dues", "_law_found"] ["_law_it"] (defScope s__law_right) := ⟨rfl, rfl, rfl, by decide +kernel, rfl, by decide +kernel, by decide +kernel⟩
def b__law_right : SM := (sSeq (sAsg (e1 (aCons (eVar 0) aNil) oRepr) (gSet 1)) (sSeq (sAsg (eNew (lLst (aCons (eAnd (e1 (aCons (eVar 0) (aCons (eC (.int 0)) aNil)) m__law_is_whole) (eB (e2 (eVar 0) (eC (.int 1000)) cLt))) (aCons (e1 (aCons (eVar 0) aNil) m__law_is_address) aNil)))) (gSet 2)) (sSeq (sFor (e1 (eTup (aCons (eNew (lLst (aCons (e1 (aCons (eVar 0) aNil) m_is_number) (aCons (e1 (aCons (eVar 0) aNil) m_is_address) aNil)))) (aCons (eNew (lLst (aCons (e1 (aCons (eVar 0) aNil) fun ds => m_is_number (pick [0] [] ds)) (aCons (e1 (aCons (eVar 0) aNil) fun ds => m_is_address (pick [0] [] ds)) aNil)))) aNil))) iVal) (gSet 3) (sIf (e2 (e1 (aCons (eVar 3) aNil) oRepr) (e1 (aCons (eVar 2) aNil) oRepr) cNe) (sRet (eC (.bl false))) sSkip)) (sRet (eB (e2 (e1 (aCons (eVar 0) aNil) oRepr) (eVar 1) cEq))))))
def m__law_right : List D → AH → Res D := fnM 4 1 b__law_right
theorem ok__law_right (T : Txt K mg) : FnG P w K mg base 5 T._law_right.a T._law_right.fd ["_law_it"] m__law_right := by
  have H__law_is_address : FnG P w K mg base 4 T._law_is_address.a T._law_is_address.fd ["_law_it"] (m__law_is_address) := (ok__law_is_address T).mono (by omega)
  have H__law_is_whole : FnG P w K mg base 4 T._law_is_whole.a T._law_is_whole.fd ["_law_it", "_law_least"] (m__law_is_whole) := (ok__law_is_whole T).mono (by omega)
  have H_is_address : FnG P w K mg base 4 T.is_address.a T.is_address.fd ["thing"] (m_is_address) := (ok_is_address T).mono (by omega)
  have H_is_number : FnG P w K mg base 4 T.is_number.a T.is_number.fd ["thing"] (m_is_number) := (ok_is_number T).mono (by omega)
  refine fnG T._law_right.F sc__law_right (fun cdv A lo s H E hr => ?_)
  exact (pzs_cons (pz_set sc__law_right.nd rfl (by first | exact Or.inl rfl | exact Or.inr rfl) (pd_callB (cd_repr hr) rfl T.n_repr (by decide +kernel) (pas_cons (pd_var 0) pas_nil)))
    (pzs_cons (pz_set sc__law_right.nd rfl (by first | exact Or.inl rfl | exact Or.inr rfl) (pd_new (pl_lst (pas_cons (pd_and (pd_call H__law_is_whole hr rfl T._law_is_whole.g T._law_is_whole.k T._law_is_whole.b (takes_of rfl rfl rfl rfl) (pas_cons (pd_var 0) (pas_cons pd_int pas_nil)) (many_cons (many_cons many_nil))) (pd_one (pd_cmp od_lt (pd_var 0) pd_int))) (pas_cons (pd_call H__law_is_address hr rfl T._law_is_address.g T._law_is_address.k T._law_is_address.b (takes_of rfl rfl rfl rfl) (pas_cons (pd_var 0) pas_nil) (many_cons many_nil)) pas_nil)))))
    (pzs_cons (pz_for (passes_of rfl) rfl (pf_d (pd_tup (pas_cons (pd_new (pl_lst (pas_cons (pd_call H_is_number hr rfl T.is_number.g T.is_number.k T.is_number.b (takes_of rfl rfl rfl rfl) (pas_cons (pd_var 0) pas_nil) (many_cons many_nil)) (pas_cons (pd_call H_is_address hr rfl T.is_address.g T.is_address.k T.is_address.b (takes_of rfl rfl rfl rfl) (pas_cons (pd_var 0) pas_nil) (many_cons many_nil)) pas_nil)))) (pas_cons (pd_new (pl_lst (pas_cons (pd_callK0 H_is_number hr rfl T.is_number.g T.is_number.k (kb_pick (ps := ["thing"]) (ks := ["thing"]) (n := 0) [0] T.is_number.F rfl (by decide) fun _ _ _ _ _ _ us ws h1 h2 => match us, ws, h1, h2 with | [], [_], _, _ => rfl) (takes_of rfl rfl rfl rfl) (pks_cons (pd_var 0) pks_nil) (many_cons many_nil)) (pas_cons (pd_callK0 H_is_address hr rfl T.is_address.g T.is_address.k (kb_pick (ps := ["thing"]) (ks := ["thing"]) (n := 0) [0] T.is_address.F rfl (by decide) fun _ _ _ _ _ _ us ws h1 h2 => match us, ws, h1, h2 with | [], [_], _, _ => rfl) (takes_of rfl rfl rfl rfl) (pks_cons (pd_var 0) pks_nil) (many_cons many_nil)) pas_nil)))) pas_nil)))) (pt_name sc__law_right.nd rfl (by first | exact Or.inl rfl | exact Or.inr rfl)) (pzs_one (pz_if (pb_cmp (od_ne hr) (pd_callB (cd_repr hr) rfl T.n_repr (by decide +kernel) (pas_cons (pd_var 3) pas_nil)) (pd_callB (cd_repr hr) rfl T.n_repr (by decide +kernel) (pas_cons (pd_var 2) pas_nil))) (pzs_one (pz_ret pd_bl)) pzs_nil)))
    (pzs_one (pz_ret (pd_cmp (od_eq hr) (pd_callB (cd_repr hr) rfl T.n_repr (by decide +kernel) (pas_cons (pd_var 0) pas_nil)) (pd_var 1)))))))
theorem sc_law : FnScope ["_law_script", "_law_deck_here", "_law_turn", "_law_deep", "_law_k", "_law_some", "_law_good", "_law_again", "_law_twice", "_law_it"] ["_law_script"] (defScope s_law) := ⟨rfl, rfl, rfl, by decide +kernel, rfl, by decide +kernel, by decide +kernel⟩
def b_law : SM := (sSeq (sAsg (e1 (aCons (eVar 0) aNil) m__law_deck) (gSet 1)) (sSeq (sFor (e1 (eC (.int 4)) iRange1) (gSet 2) (sSeq (sAsg (eTup (aCons (e1 (aCons (eVar 1) aNil) m__law_whole) (aCons (e1 (aCons (eVar 1) aNil) m__law_whole) aNil))) (gSet 6)) (sFor (e1 (eC (.int 12)) iRange1) (gSet 7) (sSeq (sAsg (eB (e2 (e1 (aCons (eVar 1) (aCons (eC (.int 3)) aNil)) m__law_draw) (eC (.int 0)) cEq)) (gSet 8)) (sSeq (sAsg (e1 (aCons (eVar 1) (aCons (e2 (lLst (aCons (eVar 6) (aCons (e2 (eVar 6) (eC (.int 0)) oIx) aNil))) (e2 (eVar 7) (eC (.int 2)) oMod) lIx) aNil)) (m__law_spoilt 20)) (gSet 9)) (sSeq (sIf (e1 (eVar 8) truth) (sAsg (e1 (aCons (eVar 1) (aCons (eVar 9) aNil)) (m__law_spoilt 20)) (gSet 9)) sSkip) (sIf (bOr (bNot (e1 (e1 (aCons (eVar 9) aNil) m__law_right) truth)) (bOr (bNot (e1 (e1 (aCons (eVar 6) aNil) m__law_right) truth)) (bNot (e1 (e1 (aCons (e2 (eVar 6) (eC (.int 1)) oIx) aNil) m__law_right) truth)))) (sRet (eC (.bl false))) sSkip))))))) (sSeq (sAsg (eTup (aCons (eC (.int 0)) (aCons (eC (.int 1)) aNil))) (gSet 3)) (sSeq (sFor (e1 (eC (.int 28)) iRange1) (gSet 4) (sAsg (e2 (lLst (aCons (eTup (aCons (eVar 3) aNil)) (aCons (eNew (lLst (aCons (eVar 3) aNil))) (aCons (eDisp [((eC (.int 0)), (eVar 3))]) (aCons (eTup (aCons (eC (.int 0)) (aCons (eVar 3) aNil))) aNil))))) (e2 (eVar 4) (eC (.int 4)) oMod) lIx) (gSet 3))) (sSeq (sAsg (eNew (lLst (aCons (eC .non) (aCons (eC (.bl true)) (aCons (eC (.bl false)) (aCons (eC (.str "")) (aCons (eC (.str "0")) (aCons (eTup aNil) (aCons (eNew (lLst aNil)) (aCons eDnew (aCons (eTup (aCons (eC (.int 0)) aNil)) (aCons (eNew (lLst (aCons (eC (.int 0)) (aCons (eC (.int 1)) aNil)))) (aCons (eTup (aCons (eC (.int 0)) (aCons (eC (.int 1)) (aCons (eC (.int 2)) aNil)))) (aCons (eTup (aCons (eC (.bl true)) (aCons (eC (.int 1)) aNil))) (aCons (eTup (aCons (eC (.int 0)) (aCons (eC (.bl true)) aNil))) (aCons (eTup (aCons (eC (.str "0")) (aCons (eC (.int 1)) aNil))) (aCons (eTup (aCons (eC (.int 0)) (aCons (eC .non) aNil))) aNil))))))))))))))))) (gSet 5)) (sSeq (sAsg (eNew (e2 (tOur (eVar 5)) (tNew (lLst (aCons (eTup (aCons (e1 (eC (.int 1)) oNeg) (aCons (eC (.int 0)) aNil))) (aCons (eTup (aCons (e1 (eC (.int 1)) oNeg) (aCons (eC (.int 999)) aNil))) (aCons (eTup (aCons (e1 (eC (.int 2)) oNeg) (aCons (eC (.int 0)) aNil))) (aCons (eTup (aCons (eC (.int 0)) (aCons (eC (.int 1000)) aNil))) (aCons (eTup (aCons (e2 (eC (.int 10)) (eC (.int 39)) oPow) (aCons (eC (.int 999)) aNil))) (aCons (eTup (aCons (eC (.int 0)) (aCons (e1 (eC (.int 1)) oNeg) aNil))) (aCons (eDisp [((eC (.int 0)), (eC (.int 1)))]) (aCons (eTup (aCons (eTup (aCons (eC (.int 0)) (aCons (eC (.int 1)) aNil))) aNil)) (aCons (eVar 3) aNil))))))))))) lCat)) (gSet 5)) (sRet (eB (bNil false (lLc (iNew (e2 (tNew (e2 (tOur (eVar 5)) (tNew (e2 (e1 (eC (.int 2)) oNeg) (eC (.int 3)) lRange2)) lCat)) (tNew (lLst (aCons (eC (.int 998)) (aCons (eC (.int 999)) (aCons (eC (.int 1000)) aNil))))) lCat)) (gSet 9) (bNot (e1 (e1 (aCons (eVar 9) aNil) m__law_right) truth)) (eVar 9) [9]))))))))))
def m_law : List D → AH → Res D := fnR 10 1 b_law
theorem ok_law (T : Txt K mg) : FnG P w K mg base 23 T.law.a T.law.fd ["_law_script"] m_law := by
  have H__law_deck : FnG P w K mg base 22 T._law_deck.a T._law_deck.fd ["_law_script"] (m__law_deck) := (ok__law_deck T).mono (by omega)
  have H__law_whole : FnG P w K mg base 22 T._law_whole.a T._law_whole.fd ["_law_deck_here"] (m__law_whole) := (ok__law_whole T).mono (by omega)
  have H__law_draw : FnG P w K mg base 22 T._law_draw.a T._law_draw.fd ["_law_deck_here", "_law_bound"] (m__law_draw) := (ok__law_draw T).mono (by omega)
  have H__law_spoilt : FnG P w K mg base 22 T._law_spoilt.a T._law_spoilt.fd ["_law_deck_here", "_law_it"] (m__law_spoilt 20) := (ok__law_spoilt T 20).mono (by omega)
  have H__law_right : FnG P w K mg base 22 T._law_right.a T._law_right.fd ["_law_it"] (m__law_right) := (ok__law_right T).mono (by omega)
  refine fnG_R T.law.F sc_law (fun cdv A lo s H E hr => ?_)
  exact (pzs_cons (pz_set sc_law.nd rfl (by first | exact Or.inl rfl | exact Or.inr rfl) (pd_call H__law_deck hr rfl T._law_deck.g T._law_deck.k T._law_deck.b (takes_of rfl rfl rfl rfl) (pas_cons (pd_var 0) pas_nil) (many_cons many_nil)))
    (pzs_cons (pz_for (passes_of rfl) rfl (pf_range1 rfl T.n_range pd_int) (pt_name sc_law.nd rfl (by first | exact Or.inl rfl | exact Or.inr rfl)) (pzs_cons (pz_set sc_law.nd rfl (by first | exact Or.inl rfl | exact Or.inr rfl) (pd_tup (pas_cons (pd_call H__law_whole hr rfl T._law_whole.g T._law_whole.k T._law_whole.b (takes_of rfl rfl rfl rfl) (pas_cons (pd_var 1) pas_nil) (many_cons many_nil)) (pas_cons (pd_call H__law_whole hr rfl T._law_whole.g T._law_whole.k T._law_whole.b (takes_of rfl rfl rfl rfl) (pas_cons (pd_var 1) pas_nil) (many_cons many_nil)) pas_nil))))
    (pzs_one (pz_for (passes_of rfl) rfl (pf_range1 rfl T.n_range pd_int) (pt_name sc_law.nd rfl (by first | exact Or.inl rfl | exact Or.inr rfl)) (pzs_cons (pz_set sc_law.nd rfl (by first | exact Or.inl rfl | exact Or.inr rfl) (pd_cmp (od_eq hr) (pd_call H__law_draw hr rfl T._law_draw.g T._law_draw.k T._law_draw.b (takes_of rfl rfl rfl rfl) (pas_cons (pd_var 1) (pas_cons pd_int pas_nil)) (many_cons (many_cons many_nil))) pd_int))
    (pzs_cons (pz_set sc_law.nd rfl (by first | exact Or.inl rfl | exact Or.inr rfl) (pd_call H__law_spoilt hr rfl T._law_spoilt.g T._law_spoilt.k T._law_spoilt.b (takes_of rfl rfl rfl rfl) (pas_cons (pd_var 1) (pas_cons (pd_ixL (pl_lst (pas_cons (pd_var 6) (pas_cons (pd_ix (pd_var 6) pd_int) pas_nil))) (pd_op od_mod (pd_var 7) pd_int)) pas_nil)) (many_cons (many_cons many_nil))))
    (pzs_cons (pz_if (pb_val (pd_var 8)) (pzs_one (pz_set sc_law.nd rfl (by first | exact Or.inl rfl | exact Or.inr rfl) (pd_call H__law_spoilt hr rfl T._law_spoilt.g T._law_spoilt.k T._law_spoilt.b (takes_of rfl rfl rfl rfl) (pas_cons (pd_var 1) (pas_cons (pd_var 9) pas_nil)) (many_cons (many_cons many_nil))))) pzs_nil)
    (pzs_one (pz_if (pbw (pbw_or (pb_not (pb_val (pd_call H__law_right hr rfl T._law_right.g T._law_right.k T._law_right.b (takes_of rfl rfl rfl rfl) (pas_cons (pd_var 9) pas_nil) (many_cons many_nil)))) (pbw_or (pb_not (pb_val (pd_call H__law_right hr rfl T._law_right.g T._law_right.k T._law_right.b (takes_of rfl rfl rfl rfl) (pas_cons (pd_var 6) pas_nil) (many_cons many_nil)))) (pbw_or1 (pb_not (pb_val (pd_call H__law_right hr rfl T._law_right.g T._law_right.k T._law_right.b (takes_of rfl rfl rfl rfl) (pas_cons (pd_ix (pd_var 6) pd_int) pas_nil) (many_cons many_nil)))))))) (pzs_one (pz_ret pd_bl)) pzs_nil)))))))))
    (pzs_cons (pz_set sc_law.nd rfl (by first | exact Or.inl rfl | exact Or.inr rfl) (pd_tup (pas_cons pd_int (pas_cons pd_int pas_nil))))
    (pzs_cons (pz_for (passes_of rfl) rfl (pf_range1 rfl T.n_range pd_int) (pt_name sc_law.nd rfl (by first | exact Or.inl rfl | exact Or.inr rfl)) (pzs_one (pz_set sc_law.nd rfl (by first | exact Or.inl rfl | exact Or.inr rfl) (pd_ixL (pl_lst (pas_cons (pd_tup (pas_cons (pd_var 3) pas_nil)) (pas_cons (pd_new (pl_lst (pas_cons (pd_var 3) pas_nil))) (pas_cons (pd_disp (.cons pd_int (pd_var 3) PDs.nil)) (pas_cons (pd_tup (pas_cons pd_int (pas_cons (pd_var 3) pas_nil))) pas_nil))))) (pd_op od_mod (pd_var 4) pd_int)))))
    (pzs_cons (pz_set sc_law.nd rfl (by first | exact Or.inl rfl | exact Or.inr rfl) (pd_new (pl_lst (pas_cons pd_non (pas_cons pd_bl (pas_cons pd_bl (pas_cons pd_str (pas_cons pd_str (pas_cons (pd_tup pas_nil) (pas_cons (pd_new (pl_lst pas_nil)) (pas_cons pd_dnew (pas_cons (pd_tup (pas_cons pd_int pas_nil)) (pas_cons (pd_new (pl_lst (pas_cons pd_int (pas_cons pd_int pas_nil)))) (pas_cons (pd_tup (pas_cons pd_int (pas_cons pd_int (pas_cons pd_int pas_nil)))) (pas_cons (pd_tup (pas_cons pd_bl (pas_cons pd_int pas_nil))) (pas_cons (pd_tup (pas_cons pd_int (pas_cons pd_bl pas_nil))) (pas_cons (pd_tup (pas_cons pd_str (pas_cons pd_int pas_nil))) (pas_cons (pd_tup (pas_cons pd_int (pas_cons pd_non pas_nil))) pas_nil))))))))))))))))))
    (pzs_cons (pz_set sc_law.nd rfl (by first | exact Or.inl rfl | exact Or.inr rfl) (pd_new (pl_cat (plt_d (pd_var 5)) (plt_l (pl_lst (pas_cons (pd_tup (pas_cons (pd_neg pd_int) (pas_cons pd_int pas_nil))) (pas_cons (pd_tup (pas_cons (pd_neg pd_int) (pas_cons pd_int pas_nil))) (pas_cons (pd_tup (pas_cons (pd_neg pd_int) (pas_cons pd_int pas_nil))) (pas_cons (pd_tup (pas_cons pd_int (pas_cons pd_int pas_nil))) (pas_cons (pd_tup (pas_cons (pd_op od_pow pd_int pd_int) (pas_cons pd_int pas_nil))) (pas_cons (pd_tup (pas_cons pd_int (pas_cons (pd_neg pd_int) pas_nil))) (pas_cons (pd_disp (.cons pd_int pd_int PDs.nil)) (pas_cons (pd_tup (pas_cons (pd_tup (pas_cons pd_int (pas_cons pd_int pas_nil))) pas_nil)) (pas_cons (pd_var 3) pas_nil))))))))))))))
    (pzs_one (pz_ret (pd_nil hr (pm_l (pl_lcv rfl sc_law.nd (pf_l (pl_cat (plt_l (pl_cat (plt_d (pd_var 5)) (plt_l (pl_range2 rfl rfl T.n_list rfl T.n_range (pd_neg pd_int) pd_int)))) (plt_l (pl_lst (pas_cons pd_int (pas_cons pd_int (pas_cons pd_int pas_nil))))))) (blkOk_by (N := ["_law_script", "_law_deck_here", "_law_turn", "_law_deep", "_law_k", "_law_some", "_law_good", "_law_again", "_law_twice", "_law_it"]) (sc := defScope s_law) (own := [("_law_it", 9)]) (by decide +kernel)) rfl (by decide) (fun _ _ _ _ _ => (pt_name sc_law.nd rfl (by first | exact Or.inl rfl | exact Or.inr rfl))) (fun _ _ _ _ _ => (ptsd_one (pb_not (pb_val (pd_call H__law_right hr rfl T._law_right.g T._law_right.k T._law_right.b takes0 (pas_cons (pd_var 9) pas_nil) (many_cons many_nil)))))) (fun _ _ _ _ _ => (pd_var 9)))))))))))))
end
theorem all_mk {P : Program} {w : World} {K : PySem.W.Frag} {h : Heap} {mg : Str → Option Value} {fa : Addr} (X : K.In h) (G : h.Ns mainGlobals mg) (hfa : mg "law" = some (.ref fa))
    {f0 : Addr} {oc0 kV0 doc0 pm0 cd0 ct0 : Value} {od0 an0 : Option Addr} {sl0 : Array (Option Value)}
    {f1 : Addr} {oc1 kV1 doc1 pm1 cd1 ct1 : Value} {od1 an1 : Option Addr} {sl1 : Array (Option Value)}
    {f2 : Addr} {oc2 kV2 doc2 pm2 cd2 ct2 : Value} {od2 an2 : Option Addr} {sl2 : Array (Option Value)}
    {f3 : Addr} {oc3 kV3 doc3 pm3 cd3 ct3 : Value} {od3 an3 : Option Addr} {sl3 : Array (Option Value)}
    {f4 : Addr} {oc4 kV4 doc4 pm4 cd4 ct4 : Value} {od4 an4 : Option Addr} {sl4 : Array (Option Value)}
    {f5 : Addr} {oc5 kV5 doc5 pm5 cd5 ct5 : Value} {od5 an5 : Option Addr} {sl5 : Array (Option Value)}
    {f6 : Addr} {oc6 kV6 doc6 pm6 cd6 ct6 : Value} {od6 an6 : Option Addr} {sl6 : Array (Option Value)}
    {f7 : Addr} {oc7 kV7 doc7 pm7 cd7 ct7 : Value} {od7 an7 : Option Addr} {sl7 : Array (Option Value)}
    {f8 : Addr} {oc8 kV8 doc8 pm8 cd8 ct8 : Value} {od8 an8 : Option Addr} {sl8 : Array (Option Value)}
    {f9 : Addr} {oc9 kV9 doc9 pm9 cd9 ct9 : Value} {od9 an9 : Option Addr} {sl9 : Array (Option Value)}
    {f10 : Addr} {oc10 kV10 doc10 pm10 cd10 ct10 : Value} {od10 an10 : Option Addr} {sl10 : Array (Option Value)}
    {f11 : Addr} {oc11 kV11 doc11 pm11 cd11 ct11 : Value} {od11 an11 : Option Addr} {sl11 : Array (Option Value)}
    {f12 : Addr} {oc12 kV12 doc12 pm12 cd12 ct12 : Value} {od12 an12 : Option Addr} {sl12 : Array (Option Value)}
    {t_NUMBERS : Tok}
    {t_NO_ROOM : Tok}
    (n0 : PySem.W.nsIn K mainGlobals "is_whole" = some (some (.ref f0)))
    (l0 : K.lookup f0 = some ⟨oc0, od0, .func (PySem.W.fnOf "is_whole" "is_whole" (defArgs s_is_whole) (defBody s_is_whole) (defScope s_is_whole) .none kV0 doc0 pm0 an0 cd0 ct0), sl0⟩)
    (cd_0 : PySem.W.codeIn K cd0 "is_whole" = true)
    (k0 : PySem.W.keepIn K (.ref f0) = true)
    (n1 : PySem.W.nsIn K mainGlobals "is_within" = some (some (.ref f1)))
    (l1 : K.lookup f1 = some ⟨oc1, od1, .func (PySem.W.fnOf "is_within" "is_within" (defArgs s_is_within) (defBody s_is_within) (defScope s_is_within) .none kV1 doc1 pm1 an1 cd1 ct1), sl1⟩)
    (cd_1 : PySem.W.codeIn K cd1 "is_within" = true)
    (k1 : PySem.W.keepIn K (.ref f1) = true)
    (n2 : PySem.W.nsIn K mainGlobals "is_number" = some (some (.ref f2)))
    (l2 : K.lookup f2 = some ⟨oc2, od2, .func (PySem.W.fnOf "is_number" "is_number" (defArgs s_is_number) (defBody s_is_number) (defScope s_is_number) .none kV2 doc2 pm2 an2 cd2 ct2), sl2⟩)
    (cd_2 : PySem.W.codeIn K cd2 "is_number" = true)
    (k2 : PySem.W.keepIn K (.ref f2) = true)
    (n3 : PySem.W.nsIn K mainGlobals "is_address" = some (some (.ref f3)))
    (l3 : K.lookup f3 = some ⟨oc3, od3, .func (PySem.W.fnOf "is_address" "is_address" (defArgs s_is_address) (defBody s_is_address) (defScope s_is_address) .none kV3 doc3 pm3 an3 cd3 ct3), sl3⟩)
    (cd_3 : PySem.W.codeIn K cd3 "is_address" = true)
    (k3 : PySem.W.keepIn K (.ref f3) = true)
    (n4 : PySem.W.nsIn K mainGlobals "_law_deck" = some (some (.ref f4)))
    (l4 : K.lookup f4 = some ⟨oc4, od4, .func (PySem.W.fnOf "_law_deck" "_law_deck" (defArgs s__law_deck) (defBody s__law_deck) (defScope s__law_deck) .none kV4 doc4 pm4 an4 cd4 ct4), sl4⟩)
    (cd_4 : PySem.W.codeIn K cd4 "_law_deck" = true)
    (k4 : PySem.W.keepIn K (.ref f4) = true)
    (n5 : PySem.W.nsIn K mainGlobals "_law_draw" = some (some (.ref f5)))
    (l5 : K.lookup f5 = some ⟨oc5, od5, .func (PySem.W.fnOf "_law_draw" "_law_draw" (defArgs s__law_draw) (defBody s__law_draw) (defScope s__law_draw) .none kV5 doc5 pm5 an5 cd5 ct5), sl5⟩)
    (cd_5 : PySem.W.codeIn K cd5 "_law_draw" = true)
    (k5 : PySem.W.keepIn K (.ref f5) = true)
    (n6 : PySem.W.nsIn K mainGlobals "_law_whole" = some (some (.ref f6)))
    (l6 : K.lookup f6 = some ⟨oc6, od6, .func (PySem.W.fnOf "_law_whole" "_law_whole" (defArgs s__law_whole) (defBody s__law_whole) (defScope s__law_whole) .none kV6 doc6 pm6 an6 cd6 ct6), sl6⟩)
    (cd_6 : PySem.W.codeIn K cd6 "_law_whole" = true)
    (k6 : PySem.W.keepIn K (.ref f6) = true)
    (n7 : PySem.W.nsIn K mainGlobals "_law_other" = some (some (.ref f7)))
    (l7 : K.lookup f7 = some ⟨oc7, od7, .func (PySem.W.fnOf "_law_other" "_law_other" (defArgs s__law_other) (defBody s__law_other) (defScope s__law_other) .none kV7 doc7 pm7 an7 cd7 ct7), sl7⟩)
    (cd_7 : PySem.W.codeIn K cd7 "_law_other" = true)
    (k7 : PySem.W.keepIn K (.ref f7) = true)
    (n8 : PySem.W.nsIn K mainGlobals "_law_spoilt" = some (some (.ref f8)))
    (l8 : K.lookup f8 = some ⟨oc8, od8, .func (PySem.W.fnOf "_law_spoilt" "_law_spoilt" (defArgs s__law_spoilt) (defBody s__law_spoilt) (defScope s__law_spoilt) .none kV8 doc8 pm8 an8 cd8 ct8), sl8⟩)
    (cd_8 : PySem.W.codeIn K cd8 "_law_spoilt" = true)
    (k8 : PySem.W.keepIn K (.ref f8) = true)
    (n9 : PySem.W.nsIn K mainGlobals "_law_is_whole" = some (some (.ref f9)))
    (l9 : K.lookup f9 = some ⟨oc9, od9, .func (PySem.W.fnOf "_law_is_whole" "_law_is_whole" (defArgs s__law_is_whole) (defBody s__law_is_whole) (defScope s__law_is_whole) .none kV9 doc9 pm9 an9 cd9 ct9), sl9⟩)
    (cd_9 : PySem.W.codeIn K cd9 "_law_is_whole" = true)
    (k9 : PySem.W.keepIn K (.ref f9) = true)
    (n10 : PySem.W.nsIn K mainGlobals "_law_is_address" = some (some (.ref f10)))
    (l10 : K.lookup f10 = some ⟨oc10, od10, .func (PySem.W.fnOf "_law_is_address" "_law_is_address" (defArgs s__law_is_address) (defBody s__law_is_address) (defScope s__law_is_address) .none kV10 doc10 pm10 an10 cd10 ct10), sl10⟩)
    (cd_10 : PySem.W.codeIn K cd10 "_law_is_address" = true)
    (k10 : PySem.W.keepIn K (.ref f10) = true)
    (n11 : PySem.W.nsIn K mainGlobals "_law_right" = some (some (.ref f11)))
    (l11 : K.lookup f11 = some ⟨oc11, od11, .func (PySem.W.fnOf "_law_right" "_law_right" (defArgs s__law_right) (defBody s__law_right) (defScope s__law_right) .none kV11 doc11 pm11 an11 cd11 ct11), sl11⟩)
    (cd_11 : PySem.W.codeIn K cd11 "_law_right" = true)
    (k11 : PySem.W.keepIn K (.ref f11) = true)
    (n12 : PySem.W.nsIn K mainGlobals "law" = some (some (.ref f12)))
    (l12 : K.lookup f12 = some ⟨oc12, od12, .func (PySem.W.fnOf "law" "law" (defArgs s_law) (defBody s_law) (defScope s_law) .none kV12 doc12 pm12 an12 cd12 ct12), sl12⟩)
    (cd_12 : PySem.W.codeIn K cd12 "law" = true)
    (k12 : PySem.W.keepIn K (.ref f12) = true)
    (b_bool : PySem.W.nsIn K mainGlobals "bool" = some none)
    (b_int : PySem.W.nsIn K mainGlobals "int" = some none)
    (b_isinstance : PySem.W.nsIn K mainGlobals "isinstance" = some none)
    (b_len : PySem.W.nsIn K mainGlobals "len" = some none)
    (b_list : PySem.W.nsIn K mainGlobals "list" = some none)
    (b_range : PySem.W.nsIn K mainGlobals "range" = some none)
    (b_repr : PySem.W.nsIn K mainGlobals "repr" = some none)
    (b_str : PySem.W.nsIn K mainGlobals "str" = some none)
    (b_sum : PySem.W.nsIn K mainGlobals "sum" = some none)
    (b_tuple : PySem.W.nsIn K mainGlobals "tuple" = some none)
    (c_NUMBERS : PySem.W.nsIn K mainGlobals "NUMBERS" = some (some (.int (1000) t_NUMBERS)))
    (c_NO_ROOM : PySem.W.nsIn K mainGlobals "NO_ROOM" = some (some (.int ((-1)) t_NO_ROOM)))
    : ∃ fd : FuncData, (∀ (s : Shared) (u : Value), BindsTo s fd ⟨[u], []⟩ [("_law_script", u)]) ∧ ∀ base : Heap, K.In base → base.Ns mainGlobals mg → FnG P w K mg base 23 fa fd ["_law_script"] m_law := by
  have e := hfa.symm.trans (PySem.W.mg_of X G n12)
  have e0 : fa = f12 := by cases e; rfl
  clear e
  rw [e0]
  have T : ∃ T : Txt K mg, T.law.a = f12 ∧ T.law.fd = PySem.W.fnOf "law" "law" (defArgs s_law) (defBody s_law) (defScope s_law) .none kV12 doc12 pm12 an12 cd12 ct12 := ⟨{
    is_whole := tf_mk X G (fun _ _ _ _ _ _ us hl => match us, hl with | [_], _ => rfl) l0 n0 cd_0 k0,
    is_within := tf_mk X G (fun _ _ _ _ _ _ us hl => match us, hl with | [_, _, _], _ => rfl) l1 n1 cd_1 k1,
    is_number := tf_mk X G (fun _ _ _ _ _ _ us hl => match us, hl with | [_], _ => rfl) l2 n2 cd_2 k2,
    is_address := tf_mk X G (fun _ _ _ _ _ _ us hl => match us, hl with | [_], _ => rfl) l3 n3 cd_3 k3,
    _law_deck := tf_mk X G (fun _ _ _ _ _ _ us hl => match us, hl with | [_], _ => rfl) l4 n4 cd_4 k4,
    _law_draw := tf_mk X G (fun _ _ _ _ _ _ us hl => match us, hl with | [_, _], _ => rfl) l5 n5 cd_5 k5,
    _law_whole := tf_mk X G (fun _ _ _ _ _ _ us hl => match us, hl with | [_], _ => rfl) l6 n6 cd_6 k6,
    _law_other := tf_mk X G (fun _ _ _ _ _ _ us hl => match us, hl with | [_, _], _ => rfl) l7 n7 cd_7 k7,
    _law_spoilt := tf_mk X G (fun _ _ _ _ _ _ us hl => match us, hl with | [_, _], _ => rfl) l8 n8 cd_8 k8,
    _law_is_whole := tf_mk X G (fun _ _ _ _ _ _ us hl => match us, hl with | [_, _], _ => rfl) l9 n9 cd_9 k9,
    _law_is_address := tf_mk X G (fun _ _ _ _ _ _ us hl => match us, hl with | [_], _ => rfl) l10 n10 cd_10 k10,
    _law_right := tf_mk X G (fun _ _ _ _ _ _ us hl => match us, hl with | [_], _ => rfl) l11 n11 cd_11 k11,
    law := tf_mk X G (fun _ _ _ _ _ _ us hl => match us, hl with | [_], _ => rfl) l12 n12 cd_12 k12,
    n_bool := PySem.W.mg_none_of X G b_bool,
    n_int := PySem.W.mg_none_of X G b_int,
    n_isinstance := PySem.W.mg_none_of X G b_isinstance,
    n_len := PySem.W.mg_none_of X G b_len,
    n_list := PySem.W.mg_none_of X G b_list,
    n_range := PySem.W.mg_none_of X G b_range,
    n_repr := PySem.W.mg_none_of X G b_repr,
    n_str := PySem.W.mg_none_of X G b_str,
    n_sum := PySem.W.mg_none_of X G b_sum,
    n_tuple := PySem.W.mg_none_of X G b_tuple,
    c_NUMBERS := ⟨_, PySem.W.mg_of X G c_NUMBERS, cr_int⟩,
    c_NO_ROOM := ⟨_, PySem.W.mg_of X G c_NO_ROOM, cr_int⟩ }, rfl, rfl⟩
  obtain ⟨T, e1, e2⟩ := T
  refine ⟨PySem.W.fnOf "law" "law" (defArgs s_law) (defBody s_law) (defScope s_law) .none kV12 doc12 pm12 an12 cd12 ct12, fun s u => .of_eq rfl, fun base _ _ => ?_⟩
  have := ok_law (P := P) (w := w) (base := base) T
  rw [e1, e2] at this
  exact this
end HL

namespace HL
open PySem PySem.Spec PyProof.Rows L2 HA
def isInt : D → Bool
  | .int _ => true
  | _ => false
def within (d : D) (a b : Int) : Bool := match d with
  | .int i => decide (a ≤ i) && decide (i ≤ b)
  | _ => false
def isNum (d : D) : Bool := within d 0 999
def isAddr (d : D) : Bool := match d with
  | .tup [.int i, p] => decide (-1 ≤ i) && isNum p
  | _ => false
/-- a thing whose class is known -/
def Named (ah : AH) (d : D) : Prop := ∃ a, tyName d ah = some a
theorem named_ref {ah : AH} {n : Nat} (h : Named ah (.ref n)) : tyName (.ref n) ah = some "list" ∨ tyName (.ref n) ah = some "dict" := by
  obtain ⟨a, e⟩ := h
  unfold tyName at e ⊢
  dsimp only at e ⊢
  split at e <;> first | exact .inl rfl | exact .inr rfl | cases e
theorem w_whole {ah : AH} {d : D} (h : Named ah d) : m_is_whole [d] ah = .ok (.bl (isInt d)) ah := by
  unfold m_is_whole b_is_whole
  rw [fnM_1]
  cases d with
  | ref n => rcases named_ref h with e | e <;> simp [e, tyIs, tyTable, isInt]
  | cst v => obtain ⟨a, e⟩ := h; cases e
  | _ => simp [tyName, tyIs, tyTable, isInt]
theorem w_within {ah : AH} {d : D} (h : Named ah d) (a b : Int) : m_is_within [d, .int a, .int b] ah = .ok (.bl (within d a b)) ah := by
  unfold m_is_within b_is_within
  rw [fnM_3]
  cases d with
  | int i =>
    simp [w_whole h, isInt, within]
    by_cases h1 : a ≤ i <;> simp [h1]
  | _ => simp [w_whole h, isInt, within]
theorem w_number {ah : AH} {d : D} (h : Named ah d) : m_is_number [d] ah = .ok (.bl (isNum d)) ah := by
  unfold m_is_number b_is_number
  rw [fnM_1]
  simp [c_NUMBERS, w_within h, isNum]
/-- a thing and what is in it -/
def Named2 (ah : AH) (d : D) : Prop := Named ah d ∧ ∀ ds, d = .tup ds → ∀ x ∈ ds, Named ah x
theorem w_address {ah : AH} {d : D} (h : Named2 ah d) : m_is_address [d] ah = .ok (.bl (isAddr d)) ah := by
  unfold m_is_address b_is_address
  rw [fnM_1]
  cases d with
  | ref n => rcases named_ref h.1 with e | e <;> simp [e, tyIs, tyTable, isAddr]
  | cst v => obtain ⟨⟨a, e⟩, _⟩ := h; cases e
  | tup ds =>
    by_cases l : ds.length = 2
    · obtain ⟨x, y, rfl⟩ : ∃ x y, ds = [x, y] := by
        match ds, l with
        | [x, y], _ => exact ⟨x, y, rfl⟩
      have hx := h.2 _ rfl x (by simp)
      have hy := h.2 _ rfl y (by simp)
      simp [tyName, tyIs, tyTable, isAddr, w_whole hx, w_number hy]
      cases x <;> simp [isInt, c_NO_ROOM]
      rename_i i
      by_cases h1 : -1 ≤ i <;> simp [h1, w_number hy]
    · have l' : ¬ ((ds.length : Int) = 2) := by omega
      simp [tyName, tyIs, tyTable, l']
      match ds, l with
      | [], _ => rfl
      | [x], _ => cases x <;> rfl
      | [x, y], l => exact absurd rfl l
      | x :: y :: z :: r, _ => cases x <;> rfl
  | _ => simp [tyName, tyIs, tyTable, isAddr]
def leastInt (d : D) (a : Int) : Bool := match d with
  | .int i => decide (a ≤ i)
  | _ => false
theorem l_whole {ah : AH} {d : D} (h : Named ah d) (a : Int) : m__law_is_whole [d, .int a] ah = .ok (.bl (leastInt d a)) ah := by
  unfold m__law_is_whole b__law_is_whole
  rw [fnM_2]
  cases d with
  | ref n => rcases named_ref h with e | e <;> simp [e, tyIs, tyTable, leastInt]
  | cst v => obtain ⟨a, e⟩ := h; cases e
  | _ => simp [tyName, tyIs, tyTable, leastInt]
theorem l_address {ah : AH} {d : D} (h : Named2 ah d) : m__law_is_address [d] ah = .ok (.bl (isAddr d)) ah := by
  unfold m__law_is_address b__law_is_address
  rw [fnM_1]
  cases d with
  | ref n => rcases named_ref h.1 with e | e <;> simp [e, tyIs, tyTable, isAddr]
  | cst v => obtain ⟨⟨a, e⟩, _⟩ := h; cases e
  | tup ds =>
    by_cases l : ds.length = 2
    · obtain ⟨x, y, rfl⟩ : ∃ x y, ds = [x, y] := by
        match ds, l with
        | [x, y], _ => exact ⟨x, y, rfl⟩
      have hx := h.2 _ rfl x (by simp)
      have hy := h.2 _ rfl y (by simp)
      have e0 : ∀ ah, oIx (.tup [x, y]) (.int 0) ah = .ok x ah := fun ah => oIx_tup (i := 0) ah rfl
      have e1 : ∀ ah, oIx (.tup [x, y]) (.int 1) ah = .ok y ah := fun ah => oIx_tup (i := 1) ah rfl
      simp [tyName, tyIs, tyTable, isAddr, e0, e1, l_whole hx]
      cases x <;> simp [leastInt]
      rename_i i
      by_cases h1 : -1 ≤ i <;> simp [h1]
      simp [l_whole hy]
      cases y <;> simp [isNum, within, leastInt]
      rename_i j
      by_cases h2 : 0 ≤ j <;> simp [h2]
      omega
    · have l' : ¬ ((ds.length : Int) = 2) := by omega
      simp [tyName, tyIs, tyTable, l']
      match ds, l with
      | [], _ => rfl
      | [x], _ => cases x <;> rfl
      | [x, y], l => exact absurd rfl l
      | x :: y :: z :: r, _ => cases x <;> rfl
  | _ => simp [tyName, tyIs, tyTable, isAddr]
theorem repr2 {ah : AH} {n : Nat} {a b : Bool} (h : ah[n]? = some (.lst [.bl a, .bl b])) : oRepr [.ref n] ah = .ok (.str (PyData.shown (.list [.bool a, .bool b]))) ah := by
  have e : pd ah (.ref n) = some (.list [.bool a, .bool b]) := by simp [pd, deep, toP, h, optAll]
  unfold oRepr
  simp only [e]
  rw [if_pos]
  cases a <;> cases b <;> decide +kernel
@[simp] theorem pick0 (d : D) : pick [0] [] [d] = [d] := rfl
theorem Named.app {ah : AH} {d : D} (h : Named ah d) (x : AH) : Named (ah ++ x) d := by
  obtain ⟨a, e⟩ := h
  cases d with
  | ref n =>
    unfold tyName at e
    dsimp only at e
    cases q : ah[n]? with
    | none => rw [q] at e; cases e
    | some o =>
      rw [q] at e
      refine ⟨a, ?_⟩
      unfold tyName
      dsimp only
      rw [List.getElem?_append_left (List.getElem?_eq_some_iff.mp q).1, q]
      exact e
  | cst v => cases e
  | _ => exact ⟨_, rfl⟩
theorem Named2.app {ah : AH} {d : D} (h : Named2 ah d) (x : AH) : Named2 (ah ++ x) d := ⟨h.1.app x, fun ds e y hy => (h.2 ds e y hy).app x⟩
theorem w_due {ah : AH} {d : D} (h : Named ah d) (s : Option D) : eAnd (e1 (aCons (eVar 0) (aCons (eC (.int 0)) aNil)) m__law_is_whole) (eB (e2 (eVar 0) (eC (.int 1000)) cLt)) [some d, s, none, none] ah = .ok (.bl (isNum d)) ah := by
  simp [l_whole h]
  cases d <;> simp [leastInt, isNum, within]
  rename_i j
  by_cases h2 : 0 ≤ j <;> simp [h2]
  omega
theorem w_right {ah : AH} {d : D} (h : Named2 ah d) (hr : ∃ s : Str, ∀ ah', Le ah ah' → oRepr [d] ah' = .ok (.str s) ah') : m__law_right [d] ah = .ok (.bl true) ah := by
  obtain ⟨s, hr⟩ := hr
  have hr' : ∀ x : AH, oRepr [d] (ah ++ x) = .ok (.str s) (ah ++ x) := fun x => hr _ (Le.app ah x)
  have hr0 := hr ah (Le.refl ah)
  have n1 : ∀ x : AH, m_is_number [d] (ah ++ x) = .ok (.bl (isNum d)) (ah ++ x) := fun x => w_number (h.1.app x)
  have n2 : ∀ x : AH, m_is_address [d] (ah ++ x) = .ok (.bl (isAddr d)) (ah ++ x) := fun x => w_address (h.app x)
  let T : PyData := .list [.bool (isNum d), .bool (isAddr d)]
  let L : AObj := .lst [.bl (isNum d), .bl (isAddr d)]
  have q0 : oRepr [.ref ah.length] (ah ++ [L, L, L]) = .ok (.str T.shown) (ah ++ [L, L, L]) := repr2 (by simp [L])
  have q1 : oRepr [.ref (ah.length + 1)] (ah ++ [L, L, L]) = .ok (.str T.shown) (ah ++ [L, L, L]) := repr2 (by simp [L])
  have q2 : oRepr [.ref (ah.length + 2)] (ah ++ [L, L, L]) = .ok (.str T.shown) (ah ++ [L, L, L]) := repr2 (by simp [L])
  have du := w_due h.1 (some (.str s))
  unfold m__law_right b__law_right
  rw [fnM_1]
  rw [sSeq_def, sAsg_set]
  simp only [e1_def, aCons_def, eVar_zero, aNil_def, Res.bind_ok, hr0, thenS_ok, next_nx, List.replicate, List.set_cons_succ, List.set_cons_zero]
  rw [sSeq_def, sAsg_set]
  simp only [eNew_def, lLst_def]
  rw [aCons_def, du]
  simp [l_address h, n1, n2, line, q0, q1, q2, hr', T, L]
  exact fin_app ah _ rfl
/-! ### drawing -/
theorem e_draw : m__law_draw = m_drawA := rfl
theorem e_deck : m__law_deck = m_deckA := rfl
/-- no object is a script -/
def NoRo (rest : AH) : Prop := ∀ o ∈ rest, o.isRo = false
theorem noRo_app {rest x : AH} (h : NoRo rest) (hx : NoRo x) : NoRo (rest ++ x) := fun o ho => (List.mem_append.mp ho).elim (h o) (hx o)
/-- whole numbers, drawn -/
theorem w_lwhole {n : Nat} {d : Dk} (h : DOk n d) (hn : n < 10 ^ 8) : ∃ (i : Int) (d' : Dk) (junk : AH), (∀ S rest, m__law_whole [.ref 2] (hA S d rest) = .ok (.int i) (hA S d' (rest ++ junk))) ∧ i.natAbs ≤ 10 ^ 40 ∧ DOk (n + 3) d' ∧ NoRo junk := by
  obtain ⟨v1, d1, e1, l1, h1⟩ := drawA' (b := 1000) h (by omega) (by decide) (by decide)
  obtain ⟨v2, d2, e2, l2, h2⟩ := drawA' (b := 1000000) h1 (by omega) (by decide) (by decide)
  obtain ⟨v3, d3, e3, l3, h3⟩ := drawA' (b := 12) h2 (by omega) (by decide) (by decide)
  have p39 : ∀ ah, oPow (.int 10) (.int 39) ah = .ok (.int 1000000000000000000000000000000000000000) ah := fun ah => oPow_int ah (by decide)
  have p6 : ∀ ah, oPow (.int 10) (.int 6) ah = .ok (.int 1000000) ah := fun ah => oPow_int ah (by decide)
  let L : List Int := [0, 1, -1, -2, 998, 999, 1000, 1001, 1000000000000000000000000000000000000000, -1000000000000000000000000000000000000000, v1, v2]
  have hL : v3 < L.length := by show v3 < 12; omega
  have hm : L[v3] ∈ L := List.getElem_mem hL
  have eL : L[v3]? = some L[v3] := List.getElem?_eq_getElem hL
  refine ⟨L[v3], d3, [.lst (L.map D.int)], fun S rest => ?_, ?_, h3, fun o ho => by simp at ho; subst ho; rfl⟩
  · unfold m__law_whole b__law_whole
    rw [fnR_1]
    have q : oIx (.ref (rest.length + 3)) (.int v3) (hA S d3 (rest ++ [.lst (L.map D.int)])) = .ok (.int L[v3]) (hA S d3 (rest ++ [.lst (L.map D.int)])) :=
      oIx_lst (ds := L.map D.int) (by rw [hA_get]; simp) (by rw [List.getElem?_map, eL]; rfl)
    simp only [List.map_cons, List.map_nil, L] at q
    simp [e_draw, e1, e2, e3, p39, p6, line, hA_app, hA_length, q, L]
  · generalize L[v3] = i at hm
    simp only [L, List.mem_cons, List.not_mem_nil, or_false] at hm
    rcases hm with rfl | rfl | rfl | rfl | rfl | rfl | rfl | rfl | rfl | rfl | rfl | rfl <;> first | decide | omega
/-! ### things otherwise -/
/-- a datum next to the deck -/
abbrev DatR (rest : AH) (n w B : Nat) (d : D) : Prop := Dat B (dead rest) n w d
theorem Dat.named {B : Nat} {ah ah' : AH} {n w : Nat} {d : D} (h : Dat B ah n w d) (l : Le ah ah') (h0 : ∀ ds, ah[(0:Nat)]? ≠ some (.ro ds)) (hr : ∀ (i : Nat) ds, ah[i]? ≠ some (.ro ds)) : Named ah' d := by
  obtain ⟨p, e, _, _⟩ := h
  cases n with
  | zero => cases e
  | succ n =>
    cases d with
    | ref m =>
      simp only [toP] at e
      cases q : ah[m]? with
      | none => rw [q] at e; cases e
      | some o =>
        rw [q] at e
        cases o with
        | lst ds => exact ⟨"list", by simp [tyName, l m _ q rfl]⟩
        | ro ds => exact absurd q (hr m ds)
        | dK kvs => exact ⟨"dict", by simp [tyName, l m _ q rfl]⟩
        | dT kvs => cases e
        | ins C fs => cases e
    | cst v => cases e
    | _ => exact ⟨_, rfl⟩
theorem noRo_dead {rest : AH} (h : NoRo rest) (i : Nat) (ds : List D) : (dead rest)[i]? ≠ some (.ro ds) := fun e => by
  match i with
  | 0 => simp [dead] at e
  | 1 => simp [dead] at e
  | 2 => simp [dead] at e
  | i + 3 =>
    rw [dead_get] at e
    have := h _ (List.mem_of_getElem? e)
    cases this
theorem DatR.named2 {rest : AH} {n w B : Nat} {d : D} (h : DatR rest n w B d) (hr : NoRo rest) {ah : AH} (l : Le (dead rest) ah) : Named2 ah d := by
  refine ⟨Dat.named h l (noRo_dead hr 0) (noRo_dead hr), fun ds e x hx => ?_⟩
  subst e
  obtain ⟨p, e, t, k⟩ := h
  cases n with
  | zero => cases e
  | succ n =>
    simp only [toP, Option.map_eq_some_iff] at e
    obtain ⟨ps, q, rfl⟩ := e
    obtain ⟨i, hi⟩ := List.getElem?_of_mem hx
    obtain ⟨p, e1, e2⟩ := optAll_at q hi
    have t' : tame B p = true := tames_iff.mp (by simpa [tame] using t) p (List.mem_of_getElem? e2)
    exact Dat.named (B := B) (n := n) (w := p.weight) ⟨p, e1, t', Nat.le_refl _⟩ l (noRo_dead hr 0) (noRo_dead hr)
/-- what may come of spoiling -/
structure Sp (N : Nat) (rest : AH) (n w B : Nat) (m : List D → AH → Res D) (d : Dk) (it : D) (S : List D) where
  x : D
  d' : Dk
  junk : AH
  run : m [.ref 2, it] (hA S d rest) = .ok x (hA S d' (rest ++ junk))
  ok : DOk N d'
  dat : DatR (rest ++ junk) n w B x
  noro : NoRo (rest ++ junk)
theorem w_other0 {N : Nat} {d : Dk} {S : List D} {rest : AH} {it : D} (h : DOk N d) (hN : N < 10 ^ 8) (hr : NoRo rest) {d1 : Dk} (e1 : ∀ S rest, m_drawA [.ref 2, .int 8] (hA S d rest) = .ok (.int 0) (hA S d1 rest)) (h1 : DOk (N + 1) d1) :
    Nonempty (Sp (N + 3) rest 2 400 10 m__law_other d it S) := by
  obtain ⟨v, d2, e2, l2, h2⟩ := drawA' (b := 12) h1 (by omega) (by decide) (by decide)
  let junk : AH := [.lst [], .dK []]
  let L : List D := [.non, .bl true, .bl false, .str "", .str "0", .str "a", .ref (rest.length + 3), .ref (rest.length + 4), .tup [], .tup [.int 0], .int 0, .int (-1)]
  obtain ⟨x, hx, ex⟩ := lIx_mem (ds := L) (i := v) (hA S d2 (rest ++ junk)) (by show v < 12; omega)
  refine ⟨⟨x, d2, junk, ?_, h2.mono (by omega), ?_, noRo_app hr fun o ho => ?_⟩⟩
  · unfold m__law_other b__law_other
    rw [fnR_2]
    simp only [L, junk] at ex
    simp [e_draw, e1, e2, line, hA_app, hA_length, ex, junk]
  · have g0 : (dead (rest ++ junk))[rest.length + 3]? = some (.lst []) := by rw [dead_get]; simp [junk]
    have g1 : (dead (rest ++ junk))[rest.length + 4]? = some (.dK []) := by rw [show rest.length + 4 = (rest.length + 1) + 3 from rfl, dead_get]; simp [junk]
    simp only [L, List.mem_cons, List.not_mem_nil, or_false] at hx
    rcases hx with rfl | rfl | rfl | rfl | rfl | rfl | rfl | rfl | rfl | rfl | rfl | rfl
    · exact ⟨_, rfl, rfl, by decide⟩
    · exact ⟨_, rfl, rfl, by decide⟩
    · exact ⟨_, rfl, rfl, by decide⟩
    · exact ⟨_, rfl, by decide +kernel, by decide +kernel⟩
    · exact ⟨_, rfl, by decide +kernel, by decide +kernel⟩
    · exact ⟨_, rfl, by decide +kernel, by decide +kernel⟩
    · exact ⟨.list [], by simp only [toP, g0]; rfl, rfl, by decide⟩
    · exact ⟨.dict [], by simp only [toP, g1]; rfl, rfl, by decide⟩
    · exact ⟨_, rfl, by decide, by decide⟩
    · exact ⟨_, rfl, by decide, by decide⟩
    · exact ⟨_, rfl, by decide, by decide⟩
    · exact ⟨_, rfl, by decide, by decide⟩
  · simp only [junk, List.mem_cons, List.not_mem_nil, or_false] at ho
    rcases ho with rfl | rfl <;> rfl
theorem Dat.up {B C : Nat} {ah : AH} {n n' w w' : Nat} {d : D} (h : Dat B ah n w d) (hB : B ≤ C) (hn : n ≤ n') (hw : w ≤ w') : Dat C ah n' w' d := h.mono (Le.refl ah) hB hn hw
theorem w_otherT {N n w B : Nat} {d : Dk} {S : List D} {rest : AH} {ds : List D} (h : DOk N d) (hN : N < 10 ^ 8) (hr : NoRo rest) {v0 : Nat} {d1 : Dk} (e1 : ∀ S rest, m_drawA [.ref 2, .int 8] (hA S d rest) = .ok (.int v0) (hA S d1 rest)) (h1 : DOk (N + 1) d1) (hv : v0 < 8) (hv0 : v0 ≠ 0)
    (hd : DatR rest (n + 1) w B (.tup ds)) (hne : ds ≠ []) (hl : ds.length < 10 ^ 6) : Nonempty (Sp (N + 3) rest (n + 2) (2 * w + 400) (B + 10) m__law_other d (.tup ds) S) := by
  obtain ⟨ps, hp, ht, hw⟩ := hd.tup_inv
  have lps := optAll_length hp
  have l0 : 0 < ds.length := List.length_pos_iff.mpr hne
  obtain ⟨at_, d2, e2, l2, h2⟩ := drawA' (b := ds.length) h1 (by omega) (by omega) (by omega)
  have la : at_ < ds.length := by omega
  have ga : ds[at_]? = some ds[at_] := List.getElem?_eq_getElem la
  obtain ⟨p, hpa, hpp⟩ := optAll_at hp ga
  have lp : p ∈ ps := List.mem_of_getElem? hpp
  let L : List D := [.tup (ds.take at_ ++ ds.drop (at_ + 1)), .tup (ds.take (at_ + 1) ++ ds.drop at_), .tup ds.reverse, .ref (rest.length + 3), ds[at_], .tup (ds ++ [.int 0]), .tup [.tup ds]]
  let junk : AH := [.lst ds, .lst L]
  obtain ⟨k, rfl⟩ : ∃ k, v0 = k + 1 := ⟨v0 - 1, by omega⟩
  have gL : (hA S d2 (rest ++ junk))[rest.length + 1 + 3]? = some (.lst L) := by rw [hA_get]; simp [junk]
  obtain ⟨x, hx, ex⟩ := oIx_mem (ds := L) (i := k) gL (by show k < 7; omega)
  have a1 : ∀ ah, oAdd (.tup (ds.take at_)) (.tup (ds.drop (at_ + 1))) ah = .ok (.tup (ds.take at_ ++ ds.drop (at_ + 1))) ah := fun ah => oAdd_tup ah (by simp [line]; omega)
  have a2 : ∀ ah, oAdd (.tup (ds.take (at_ + 1))) (.tup (ds.drop at_)) ah = .ok (.tup (ds.take (at_ + 1) ++ ds.drop at_)) ah := fun ah => oAdd_tup ah (by simp [line]; omega)
  have a3 : ∀ ah, oAdd (.tup ds) (.tup [.int 0]) ah = .ok (.tup (ds ++ [.int 0])) ah := fun ah => oAdd_tup ah (by simp [line]; omega)
  have i1 : ∀ ah, oIx (.tup ds) (.int at_) ah = .ok ds[at_] ah := fun ah => oIx_tup ah ga
  have hne' : ds.isEmpty = false := by cases ds <;> simp_all
  have hk : ¬ ((k : Int) + 1 = 0) := by omega
  refine ⟨⟨x, d2, junk, ?_, h2.mono (by omega), ?_, noRo_app hr fun o ho => ?_⟩⟩
  · unfold m__law_other b__law_other
    rw [fnR_2]
    simp only [L, junk] at ex
    simp [e_draw, e1, e2, line, hA_app, hA_length, hk, tyName, tyIs, tyTable, hne', a1, a2, a3, i1, seqOf, sList, ex, L, junk]
  · have g0 : (dead (rest ++ junk))[rest.length + 3]? = some (.lst ds) := by rw [dead_get]; simp [junk]
    have le : Le (dead rest) (dead (rest ++ junk)) := dead_app
    have hp' : optAll (toP (dead (rest ++ junk)) n) ds = some ps := optAll_mono (fun a b => toP_heap le n n a b (Nat.le_refl _)) hp
    have ht' : tames (B + 10) ps = true := tames_mono (by omega) ps ht
    have td := weightAll_td ps at_
    have td1 := weightAll_td ps (at_ + 1)
    simp only [L, List.mem_cons, List.not_mem_nil, or_false] at hx
    rcases hx with rfl | rfl | rfl | rfl | rfl | rfl | rfl
    · refine Dat.up (Dat.tup (optAll_app (optAll_take at_ hp') (optAll_drop (at_ + 1) hp')) (by rw [tames_app, tames_take ht', tames_drop ht']; rfl) (w := 2 * w) (by rw [weightAll_app]; omega)) (Nat.le_refl _) (by omega) (by omega)
    · refine Dat.up (Dat.tup (optAll_app (optAll_take (at_ + 1) hp') (optAll_drop at_ hp')) (by rw [tames_app, tames_take ht', tames_drop ht']; rfl) (w := 2 * w) (by rw [weightAll_app]; omega)) (Nat.le_refl _) (by omega) (by omega)
    · exact Dat.up (Dat.tup (optAll_rev hp') (tames_rev ht') (w := w) (by rw [weightAll_rev]; exact hw)) (Nat.le_refl _) (by omega) (by omega)
    · exact Dat.up (Dat.lst g0 hp' ht' hw) (Nat.le_refl _) (by omega) (by omega)
    · have := weight_mem lp
      exact ⟨p, toP_heap le n (n + 2) _ p (by omega) hpa, tames_iff.mp ht' p lp, by omega⟩
    · cases n with
      | zero =>
        cases ds with
        | nil => exact absurd rfl hne
        | cons a as => obtain ⟨b, cs, _, q, _⟩ := optAll_cons hp; cases q
      | succ n =>
        refine Dat.up (Dat.tup (ps := ps ++ [.int 0]) (optAll_app hp' rfl) (by rw [tames_app, ht']; rfl) (w := w + 1) ?_) (Nat.le_refl _) (by omega) (by omega)
        rw [weightAll_app]
        simp [PyData.weightAll, PyData.weight]
        omega
    · refine Dat.up (Dat.tup (ps := [.tuple ps]) (by simp [optAll, toP, hp']) (by simp [tames, tame, ht']) (w := w + 1) ?_) (Nat.le_refl _) (Nat.le_refl _) (by omega)
      simp [PyData.weightAll, PyData.weight]
      omega
  · simp only [junk, List.mem_cons, List.not_mem_nil, or_false] at ho
    rcases ho with rfl | rfl <;> rfl
theorem datI {B n w : Nat} {ah : AH} {i : Int} (h : i.natAbs ≤ B) (hB : B < 2 ^ 290) (hw : 300 ≤ w) : Dat B ah (n + 1) w (.int i) := by
  refine ⟨.int i, rfl, by simpa [tame] using h, ?_⟩
  have l : i.natAbs.log2 < 290 := log2_lt (by decide) (Nat.lt_of_le_of_lt h hB)
  simp only [PyData.weight]
  split <;> omega
theorem w_otherI {N n w B : Nat} {d : Dk} {S : List D} {rest : AH} {it : D} {i : Int} (h : DOk N d) (hN : N < 10 ^ 8) (hr : NoRo rest) {v0 : Nat} {d1 : Dk} (e1 : ∀ S rest, m_drawA [.ref 2, .int 8] (hA S d rest) = .ok (.int v0) (hA S d1 rest)) (h1 : DOk (N + 1) d1) (hv : v0 < 8) (hv0 : v0 ≠ 0)
    (hi : i.natAbs ≤ B) (hB : B < 2 ^ 280) (hit : it = .int i ∨ ∃ b, it = .bl b ∧ i = dI b) : Nonempty (Sp (N + 3) rest 2 400 (B + 10) m__law_other d it S) := by
  have B' : B + 10 < 2 ^ 290 := Nat.lt_trans (Nat.add_lt_add_right hB 10) (by decide)
  obtain ⟨k, rfl⟩ : ∃ k, v0 = k + 1 := ⟨v0 - 1, by omega⟩
  have hk : ¬ ((k : Int) + 1 = 0) := by omega
  have hnt : ∀ ah, ∃ a, tyName it ah = some a ∧ tyIs a "tuple" = false ∧ tyIs a "int" = true := fun ah => by
    rcases hit with rfl | ⟨b, rfl, _⟩
    · exact ⟨_, rfl, by decide, by decide⟩
    · exact ⟨_, rfl, by decide, by decide⟩
  have a1 : ∀ ah, oAdd it (.int 1) ah = .ok (.int (i + 1)) ah := fun ah => by rcases hit with rfl | ⟨b, rfl, rfl⟩ <;> rfl
  have a2 : ∀ ah, oSub it (.int 1) ah = .ok (.int (i - 1)) ah := fun ah => by rcases hit with rfl | ⟨b, rfl, rfl⟩ <;> rfl
  have a3 : ∀ ah, oSub (.int (-1)) it ah = .ok (.int (-1 - i)) ah := fun ah => by rcases hit with rfl | ⟨b, rfl, rfl⟩ <;> rfl
  obtain ⟨c, a4⟩ : ∃ c, ∀ ah, cEq it (.int 1) ah = .ok c ah := by
    rcases hit with rfl | ⟨b, rfl, rfl⟩
    · exact ⟨_, fun ah => rfl⟩
    · exact ⟨b, fun ah => by cases b <;> rfl⟩
  obtain ⟨s, a5, a6⟩ : ∃ s, (∀ ah, oStr [it] ah = .ok (.str s) ah) ∧ ∀ ah, Dat (B + 10) ah 1 300 (.str s) := by
    rcases hit with rfl | ⟨b, rfl, rfl⟩
    · have l : i.natAbs.log2 < 290 := log2_lt (by decide) (by omega)
      exact ⟨_, fun ah => by simp only [oStr]; rw [if_pos (by omega)], fun ah => Dat.toStr (by omega)⟩
    · exact ⟨_, fun ah => rfl, fun ah => by cases b <;> exact ⟨_, rfl, by simp only [tame]; decide +kernel, by simp only [PyData.weight]; decide +kernel⟩⟩
  have dit : ∃ p, (∀ ah f, toP ah (f + 1) it = some p) ∧ tame (B + 10) p = true ∧ p.weight ≤ 300 := by
    rcases hit with rfl | ⟨b, rfl, rfl⟩
    · obtain ⟨p, e, t, k⟩ := datI (B := B + 10) (n := 0) (w := 300) (ah := []) (i := i) (by omega) B' (Nat.le_refl _)
      exact ⟨p, fun ah f => e, t, k⟩
    · exact ⟨.bool b, fun ah f => rfl, rfl, by simp [PyData.weight]⟩
  obtain ⟨p, dp, tp, wp⟩ := dit
  let L : List D := [.int (i + 1), .int (i - 1), .int (-1 - i), .bl c, .str s, .tup [it], .ref (rest.length + 3)]
  let junk : AH := [.lst [it]]
  obtain ⟨x, hx, ex⟩ := lIx_mem (ds := L) (i := k) (hA S d1 (rest ++ junk)) (by show k < 7; omega)
  obtain ⟨nm, t1, t2, t3⟩ := hnt (hA S d1 rest)
  refine ⟨⟨x, d1, junk, ?_, h1.mono (by omega), ?_, noRo_app hr fun o ho => ?_⟩⟩
  · unfold m__law_other b__law_other
    rw [fnR_2]
    simp only [L, junk] at ex
    simp [e_draw, e1, line, hA_app, hA_length, hk, t1, t2, t3, tyTable, a1, a2, a3, a4, a5, ex, L, junk]
  · have g0 : (dead (rest ++ junk))[rest.length + 3]? = some (.lst [it]) := by rw [dead_get]; simp [junk]
    simp only [L, List.mem_cons, List.not_mem_nil, or_false] at hx
    rcases hx with rfl | rfl | rfl | rfl | rfl | rfl | rfl
    · exact datI (n := 1) (by omega) B' (by decide)
    · exact datI (n := 1) (by omega) B' (by decide)
    · exact datI (n := 1) (by omega) B' (by decide)
    · exact ⟨_, rfl, rfl, by simp [PyData.weight]⟩
    · exact Dat.up (a6 _) (Nat.le_refl _) (by omega) (by omega)
    · exact Dat.tup (ps := [p]) (by simp [optAll, dp]) (by simp [tames, tp]) (by simp [PyData.weightAll]; omega)
    · exact Dat.lst (ps := [p]) g0 (by simp [optAll, dp]) (by simp [tames, tp]) (by simp [PyData.weightAll]; omega)
  · simp only [junk, List.mem_cons, List.not_mem_nil, or_false] at ho
    subst ho; rfl
theorem w_otherE {N n w B : Nat} {d : Dk} {S : List D} {rest : AH} {it : D} (h : DOk N d) (hN : N < 10 ^ 8) (hr : NoRo rest) {v0 : Nat} {d1 : Dk} (e1 : ∀ S rest, m_drawA [.ref 2, .int 8] (hA S d rest) = .ok (.int v0) (hA S d1 rest)) (h1 : DOk (N + 1) d1) (hv0 : v0 ≠ 0)
    (hn : ∃ a, tyName it (hA S d1 rest) = some a ∧ tyIs a "int" = false ∧ (tyIs a "tuple" = false ∨ it = .tup [])) : Nonempty (Sp (N + 3) rest 2 400 10 m__law_other d it S) := by
  obtain ⟨v, d2, e2, l2, h2⟩ := drawA' (b := 3) h1 (by omega) (by decide) (by decide)
  obtain ⟨a, t1, t2, t3⟩ := hn
  have hk : ¬ ((v0 : Int) = 0) := by omega
  refine ⟨⟨.tup [.int v], d2, [], ?_, h2.mono (by omega), ?_, by rw [List.append_nil]; exact hr⟩⟩
  · unfold m__law_other b__law_other
    rw [fnR_2]
    rcases t3 with t3 | rfl
    · simp [e_draw, e1, e2, line, hv0, t1, t2, t3, tyTable]
    · simp [tyName] at t1
      subst t1
      simp [e_draw, e1, e2, line, hv0, t2, tyName, tyTable]
  · refine Dat.tup (ps := [.int v]) rfl (by simp [tames, tame]; omega) ?_
    have l : (v : Int).natAbs.log2 < 2 := log2_lt (by decide) (by omega)
    simp [PyData.weightAll, PyData.weight] at l ⊢
    split <;> omega
/-- spoiling once, not further in -/
theorem w_other {N n w B : Nat} {d : Dk} {S : List D} {rest : AH} {it : D} (h : DOk N d) (hN : N < 10 ^ 8) (hr : NoRo rest) (hd : DatR rest (n + 1) w B it) (hB : B < 2 ^ 280) (hB1 : 1 ≤ B) (hw : w < 10 ^ 5) :
    Nonempty (Sp (N + 3) rest (n + 2) (2 * w + 400) (B + 10) m__law_other d it S) := by
  have up : Nonempty (Sp (N + 3) rest 2 400 (B + 10) m__law_other d it S) → Nonempty (Sp (N + 3) rest (n + 2) (2 * w + 400) (B + 10) m__law_other d it S) := fun ⟨z⟩ => ⟨⟨z.x, z.d', z.junk, z.run, z.ok, Dat.up z.dat (Nat.le_refl _) (by omega) (by omega), z.noro⟩⟩
  have up' : Nonempty (Sp (N + 3) rest 2 400 10 m__law_other d it S) → Nonempty (Sp (N + 3) rest (n + 2) (2 * w + 400) (B + 10) m__law_other d it S) := fun ⟨z⟩ => ⟨⟨z.x, z.d', z.junk, z.run, z.ok, Dat.up z.dat (by omega) (by omega) (by omega), z.noro⟩⟩
  obtain ⟨v0, d1, e1, l1, h1⟩ := drawA' (b := 8) h (by omega) (by decide) (by decide)
  by_cases hv0 : v0 = 0
  · subst hv0
    exact up' (w_other0 h hN hr e1 h1)
  · obtain ⟨nm, _⟩ := DatR.named2 hd hr (dead_le0 (S := S) (d := d1))
    have other : (∀ a, tyName it (hA S d1 rest) = some a → tyIs a "int" = false ∧ (tyIs a "tuple" = false ∨ it = .tup [])) → Nonempty (Sp (N + 3) rest (n + 2) (2 * w + 400) (B + 10) m__law_other d it S) := fun hh => by
      obtain ⟨a, ha⟩ := nm
      exact up' (w_otherE (n := n) (w := w) (B := B) h hN hr e1 h1 hv0 ⟨a, ha, hh a ha⟩)
    cases it with
    | int i =>
      obtain ⟨p, e, t, k⟩ := hd
      cases e
      exact up (w_otherI (n := n) (w := w) h hN hr e1 h1 (by omega) hv0 (by simpa [tame] using t) hB (.inl rfl))
    | bl b => exact up (w_otherI (n := n) (w := w) (i := dI b) h hN hr e1 h1 (by omega) hv0 (by cases b <;> simp [dI]; omega) hB (.inr ⟨b, rfl, rfl⟩))
    | tup ds =>
      by_cases hne : ds = []
      · subst hne
        exact other fun a ha => by simp [tyName] at ha; subst ha; exact ⟨by decide, .inr rfl⟩
      · refine w_otherT h hN hr e1 h1 (by omega) hv0 hd hne ?_
        obtain ⟨ps, hp, ht, hw'⟩ := hd.tup_inv
        have := optAll_length hp
        have : ∀ qs : List PyData, qs.length ≤ PyData.weightAll qs := fun qs => by
          induction qs with
          | nil => exact Nat.zero_le _
          | cons q qs ih => simp only [PyData.weightAll, List.length_cons]; omega
        have := this ps
        omega
    | non => exact other fun a ha => by simp [tyName] at ha; subst ha; exact ⟨by decide, .inl (by decide)⟩
    | str x => exact other fun a ha => by simp [tyName] at ha; subst ha; exact ⟨by decide, .inl (by decide)⟩
    | ref m => exact other fun a ha => by rcases named_ref nm with e | e <;> (rw [e] at ha; cases ha; exact ⟨by decide, .inl (by decide)⟩)
    | cst v => obtain ⟨a, e⟩ := nm; cases e
/-- spoiling: f turns deep at the most -/
theorem w_spoilt : ∀ (f : Nat) {N n w B : Nat} {d : Dk} {S : List D} {rest : AH} {it : D} (h : DOk N d) (hN : N + 5 * f < 10 ^ 8) (hr : NoRo rest) (hd : DatR rest n w B it) (hn : n ≤ f) (hB : B < 2 ^ 280) (hB1 : 1 ≤ B) (hw : w < 10 ^ 5),
    Nonempty (Sp (N + 5 * f + 5) rest (n + 1) (2 * w + 400) (B + 10) (m__law_spoilt f) d it S)
  | 0, N, n, w, B, d, S, rest, it, h, hN, hr, hd, hn, hB, hB1, hw => by
    obtain ⟨p, e, _⟩ := hd
    obtain rfl : n = 0 := by omega
    cases e
  | f + 1, N, 0, w, B, d, S, rest, it, h, hN, hr, hd, hn, hB, hB1, hw => by
    obtain ⟨p, e, _⟩ := hd
    cases e
  | f + 1, N, n + 1, w, B, d, S, rest, it, h, hN, hr, hd, hn, hB, hB1, hw => by
    have fin : ∀ {M : Nat} {d1 : Dk}, M ≤ N + 1 → DOk M d1 → (∀ z : D × AH, m__law_other [.ref 2, it] (hA S d1 rest) = .ok z.1 z.2 → m__law_spoilt (f + 1) [.ref 2, it] (hA S d rest) = .ok z.1 z.2) →
        Nonempty (Sp (N + 5 * (f + 1) + 5) rest (n + 1 + 1) (2 * w + 400) (B + 10) (m__law_spoilt (f + 1)) d it S) := fun {M d1} hM h1 run => by
      obtain ⟨z⟩ := w_other (S := S) h1 (by omega) hr hd hB hB1 hw
      exact ⟨⟨z.x, z.d', z.junk, run ⟨_, _⟩ z.run, z.ok.mono (by omega), z.dat, z.noro⟩⟩
    obtain ⟨nm, nm2⟩ := DatR.named2 hd hr (dead_le0 (S := S) (d := d))
    by_cases ht : ∃ ds, it = .tup ds
    · obtain ⟨ds, rfl⟩ := ht
      by_cases hne : ds = []
      · subst hne
        refine fin (M := N) (by omega) h fun z e => ?_
        unfold m__law_spoilt b__law_spoilt
        rw [fnR_2]
        simp [tyName, tyIs, tyTable, line, cEq_tupNil, e]
      · have hne' : ds.isEmpty = false := by cases ds <;> simp_all
        obtain ⟨v1, d1, e1, l1, h1⟩ := drawA' (b := 3) h (by omega) (by decide) (by decide)
        by_cases hv : v1 = 0
        · subst hv
          refine fin (M := N + 1) (by omega) h1 fun z e => ?_
          unfold m__law_spoilt b__law_spoilt
          rw [fnR_2]
          simp [tyName, tyIs, tyTable, line, cEq_tupNil, hne', e_draw, e1, e]
        · obtain ⟨ps, hp, htm, hwt⟩ := hd.tup_inv
          have lps := optAll_length hp
          have l0 : 0 < ds.length := List.length_pos_iff.mpr hne
          have wl : ∀ qs : List PyData, qs.length ≤ PyData.weightAll qs := fun qs => by
            induction qs with
            | nil => exact Nat.zero_le _
            | cons q qs ih => simp only [PyData.weightAll, List.length_cons]; omega
          have := wl ps
          obtain ⟨at_, d2, e2, l2, h2⟩ := drawA' (b := ds.length) h1 (by omega) (by omega) (by omega)
          have la : at_ < ds.length := by omega
          have ga : ds[at_]? = some ds[at_] := List.getElem?_eq_getElem la
          obtain ⟨p, hpa, hpp⟩ := optAll_at hp ga
          have lp : p ∈ ps := List.mem_of_getElem? hpp
          have wp := weight_mem lp
          have dx : DatR rest n p.weight B ds[at_] := ⟨p, hpa, tames_iff.mp htm p lp, Nat.le_refl _⟩
          obtain ⟨z⟩ := w_spoilt f (S := S) h2 (by omega) hr dx (by omega) hB hB1 (by omega)
          obtain ⟨q, zq, zt, zw⟩ := z.dat
          have i1 : ∀ ah, oIx (.tup ds) (.int at_) ah = .ok ds[at_] ah := fun ah => oIx_tup ah ga
          have a1 : ∀ ah, oAdd (.tup (ds.take at_)) (.tup [z.x]) ah = .ok (.tup (ds.take at_ ++ [z.x])) ah := fun ah => oAdd_tup ah (by simp [line]; omega)
          have a2 : ∀ ah, oAdd (.tup (ds.take at_ ++ [z.x])) (.tup (ds.drop (at_ + 1))) ah = .ok (.tup ((ds.take at_ ++ [z.x]) ++ ds.drop (at_ + 1))) ah := fun ah => oAdd_tup ah (by simp [line]; omega)
          have zr := z.run
          refine ⟨⟨.tup ((ds.take at_ ++ [z.x]) ++ ds.drop (at_ + 1)), z.d', z.junk, ?_, z.ok.mono (by omega), ?_, z.noro⟩⟩
          · unfold m__law_spoilt b__law_spoilt
            rw [fnR_2]
            simp [tyName, tyIs, tyTable, line, cEq_tupNil, hne', e_draw, e1, hv, e2, i1, zr, a1, a2, -List.append_assoc]
          · have le : Le (dead rest) (dead (rest ++ z.junk)) := dead_app
            have hp' : optAll (toP (dead (rest ++ z.junk)) (n + 1)) ds = some ps := optAll_mono (fun a b => toP_heap le n (n + 1) a b (Nat.le_succ _)) hp
            have ht' : tames (B + 10) ps = true := tames_mono (by omega) ps htm
            refine Dat.tup (optAll_app (optAll_app (optAll_take at_ hp') (ps := ps.take at_) (qs := [q]) (by simp [optAll, zq])) (optAll_drop (at_ + 1) hp')) ?_ ?_
            · rw [tames_app, tames_app, tames_take ht', tames_drop ht']; simp [tames, zt]
            · have td := weightAll_td ps (at_ + 1)
              have tk : PyData.weightAll (ps.take (at_ + 1)) = PyData.weightAll (ps.take at_) + (p.weight + 1) := by
                rw [List.take_succ, hpp, weightAll_app]
                simp [PyData.weightAll]
              rw [weightAll_app, weightAll_app]
              simp only [PyData.weightAll]
              omega
    · refine fin (M := N) (by omega) h fun z e => ?_
      obtain ⟨a, ha⟩ := nm
      have : tyIs a "tuple" = false := by
        cases it with
        | tup ds => exact absurd ⟨ds, rfl⟩ ht
        | ref m => rcases named_ref ⟨a, ha⟩ with e | e <;> (rw [e] at ha; cases ha; decide)
        | cst v => cases ha
        | non => cases ha; decide
        | bl b => cases ha; decide
        | int i => cases ha; decide
        | str x => cases ha; decide
      unfold m__law_spoilt b__law_spoilt
      rw [fnR_2]
      simp [ha, this, tyTable, e]
/-! ### the law -/
theorem right_of {rest : AH} {n w B : Nat} {d : D} {S : List D} {k : Dk} (h : DatR rest n w B d) (hr : NoRo rest) (hB : B < 2 ^ 290) (hn : n ≤ 63) (hw : w ≤ 50000) : m__law_right [d] (hA S k rest) = .ok (.bl true) (hA S k rest) := by
  refine w_right (DatR.named2 h hr dead_le0) ?_
  obtain ⟨s, hs⟩ := Dat.repr h hB hn hw
  exact ⟨s, fun ah' l => hs ah' (dead_le0.trans l)⟩
def innerBody : SM := (sSeq (sAsg (eB (e2 (e1 (aCons (eVar 1) (aCons (eC (.int 3)) aNil)) m__law_draw) (eC (.int 0)) cEq)) (gSet 8)) (sSeq (sAsg (e1 (aCons (eVar 1) (aCons (e2 (lLst (aCons (eVar 6) (aCons (e2 (eVar 6) (eC (.int 0)) oIx) aNil))) (e2 (eVar 7) (eC (.int 2)) oMod) lIx) aNil)) (m__law_spoilt 20)) (gSet 9)) (sSeq (sIf (e1 (eVar 8) truth) (sAsg (e1 (aCons (eVar 1) (aCons (eVar 9) aNil)) (m__law_spoilt 20)) (gSet 9)) sSkip) (sIf (bOr (bNot (e1 (e1 (aCons (eVar 9) aNil) m__law_right) truth)) (bOr (bNot (e1 (e1 (aCons (eVar 6) aNil) m__law_right) truth)) (bNot (e1 (e1 (aCons (e2 (eVar 6) (eC (.int 1)) oIx) aNil) m__law_right) truth)))) (sRet (eC (.bl false))) sSkip))))
def pairD (a b : Int) : D := .tup [.int a, .int b]
theorem dat_pair {rest : AH} {a b : Int} (ha : a.natAbs ≤ 10 ^ 40) (hb : b.natAbs ≤ 10 ^ 40) : DatR rest 2 602 (10 ^ 40) (pairD a b) := by
  obtain ⟨p, e1, t1, w1⟩ := datI (ah := dead rest) (n := 0) (w := 300) ha (by decide) (Nat.le_refl _)
  obtain ⟨q, e2, t2, w2⟩ := datI (ah := dead rest) (n := 0) (w := 300) hb (by decide) (Nat.le_refl _)
  refine Dat.tup (ps := [p, q]) (by simp [optAll, e1, e2]) (by simp [tames, t1, t2]) ?_
  simp [PyData.weightAll]; omega
theorem inner {N : Nat} {d : Dk} {S : List D} {rest : AH} {a b : Int} {j : Nat} {x2 x8 x9 : Option D} (h : DOk N d) (hN : N < 10 ^ 7) (hr : NoRo rest) (ha : a.natAbs ≤ 10 ^ 40) (hb : b.natAbs ≤ 10 ^ 40) :
    ∃ (y8 y9 : Option D) (d' : Dk) (junk : AH), innerBody [some (.ref 0), some (.ref 2), x2, none, none, none, some (pairD a b), some (.int j), x8, x9] (hA S d rest) = .nx [some (.ref 0), some (.ref 2), x2, none, none, none, some (pairD a b), some (.int j), y8, y9] (hA S d' (rest ++ junk)) ∧ DOk (N + 300) d' ∧ NoRo (rest ++ junk) := by
  obtain ⟨v, d1, e1, l1, h1⟩ := drawA' (b := 3) h (by omega) (by decide) (by decide)
  have dg : ∀ {x : AH}, DatR x 2 602 (10 ^ 40) (pairD a b) := fun {x} => dat_pair ha hb
  have d0 : DatR rest 2 602 (10 ^ 40) (.int a) := datI (n := 1) ha (by decide) (by decide)
  have db : ∀ {x : AH}, DatR x 2 602 (10 ^ 40) (.int b) := fun {x} => datI (n := 1) hb (by decide) (by decide)
  obtain ⟨y, hy, ey, dy⟩ : ∃ y, (∀ ah, lIx [pairD a b, .int a] (.int ((j : Int) % 2)) ah = .ok y ah) ∧ y ∈ [pairD a b, .int a] ∧ DatR rest 2 602 (10 ^ 40) y := by
    have hj : j % 2 < [pairD a b, D.int a].length := Nat.mod_lt _ (by decide)
    refine ⟨[pairD a b, D.int a][j % 2], fun ah => by rw [show ((j : Int) % 2) = ((j % 2 : Nat) : Int) by simp]; exact lIx_nat ah (List.getElem?_eq_getElem hj), List.getElem_mem hj, ?_⟩
    have := List.getElem_mem hj
    generalize [pairD a b, D.int a][j % 2] = y at this
    simp only [List.mem_cons, List.not_mem_nil, or_false] at this
    rcases this with rfl | rfl
    · exact dg
    · exact d0
  obtain ⟨z⟩ := w_spoilt 20 (S := S) h1 (by omega) hr dy (by decide) (by decide) (by decide) (by decide)
  have md : ∀ ah, oMod (.int j) (.int 2) ah = .ok (.int ((j : Int) % 2)) ah := fun ah => oMod_int ah (by decide)
  have g0 : ∀ ah, oIx (pairD a b) (.int 0) ah = .ok (.int a) ah := fun ah => oIx_tup (i := 0) ah rfl
  have g1 : ∀ ah, oIx (pairD a b) (.int 1) ah = .ok (.int b) ah := fun ah => oIx_tup (i := 1) ah rfl
  have zr := z.run
  by_cases hv : v = 0
  · obtain ⟨u⟩ := w_spoilt 20 (S := S) z.ok (by omega) z.noro z.dat (by decide) (by decide) (by decide) (by decide)
    have ur := u.run
    refine ⟨some (.bl true), some u.x, u.d', z.junk ++ u.junk, ?_, u.ok.mono (by omega), by rw [← List.append_assoc]; exact u.noro⟩
    have r1 := right_of (S := S) (k := u.d') u.dat u.noro (by decide) (by decide) (by decide)
    have r2 := right_of (S := S) (k := u.d') (dg (x := rest ++ z.junk ++ u.junk)) u.noro (by decide) (by decide) (by decide)
    have r3 := right_of (S := S) (k := u.d') (db (x := rest ++ z.junk ++ u.junk)) u.noro (by decide) (by decide) (by decide)
    unfold innerBody
    rw [← List.append_assoc]
    simp [e_draw, e1, hv, line, g0, g1, md, hy, zr, ur, r1, r2, r3, -List.append_assoc]
  · refine ⟨some (.bl false), some z.x, z.d', z.junk, ?_, z.ok.mono (by omega), z.noro⟩
    have r1 := right_of (S := S) (k := z.d') z.dat z.noro (by decide) (by decide) (by decide)
    have r2 := right_of (S := S) (k := z.d') (dg (x := rest ++ z.junk)) z.noro (by decide) (by decide) (by decide)
    have r3 := right_of (S := S) (k := z.d') (db (x := rest ++ z.junk)) z.noro (by decide) (by decide) (by decide)
    unfold innerBody
    simp [e_draw, e1, hv, line, g0, g1, md, hy, zr, r1, r2, r3, -List.append_assoc]
def outerBody : SM := (sSeq (sAsg (eTup (aCons (e1 (aCons (eVar 1) aNil) m__law_whole) (aCons (e1 (aCons (eVar 1) aNil) m__law_whole) aNil))) (gSet 6)) (sFor (e1 (eC (.int 12)) iRange1) (gSet 7) innerBody))
theorem outer {N : Nat} {d : Dk} {S : List D} {rest : AH} {x2 x6 x7 x8 x9 : Option D} (h : DOk N d) (hN : N < 10 ^ 6) (hr : NoRo rest) :
    ∃ (y6 y7 y8 y9 : Option D) (d' : Dk) (rest' : AH), outerBody [some (.ref 0), some (.ref 2), x2, none, none, none, x6, x7, x8, x9] (hA S d rest) = .nx [some (.ref 0), some (.ref 2), x2, none, none, none, y6, y7, y8, y9] (hA S d' rest') ∧ DOk (N + 5000) d' ∧ NoRo rest' := by
  obtain ⟨a, d1, j1, e1, b1, h1, k1⟩ := w_lwhole h (by omega)
  obtain ⟨b, d2, j2, e2, b2, h2, k2⟩ := w_lwhole h1 (by omega)
  have hr2 : NoRo (rest ++ j1 ++ j2) := noRo_app (noRo_app hr k1) k2
  let P : Nat → HA.Env → AH → Prop := fun i env ah => ∃ (y7 y8 y9 : Option D) (d' : Dk) (rest' : AH), env = [some (.ref 0), some (.ref 2), x2, none, none, none, some (pairD a b), y7, y8, y9] ∧ ah = hA S d' rest' ∧ DOk (N + 10 + 300 * i) d' ∧ NoRo rest'
  obtain ⟨env', ah', e3, y7, y8, y9, d', rest', rfl, rfl, ok, nr⟩ := forLoop_ind (t := ⟨(List.range 12).map fun (i : Nat) => D.int i, []⟩) (tm := gSet 7) (body := innerBody) (fun _ => rfl) P ((List.range 12).map fun (i : Nat) => D.int i) 0 [some (.ref 0), some (.ref 2), x2, none, none, none, some (pairD a b), x7, x8, x9] (hA S d2 (rest ++ j1 ++ j2))
    (fun i it env ah hi ⟨y7, y8, y9, d', rest', e1, e2, ok, nr⟩ => by
      subst e1; subst e2
      have li : i < 12 := by have := (List.getElem?_eq_some_iff.mp hi).1; simpa using this
      obtain rfl : it = .int i := by
        rw [List.getElem?_map, List.getElem?_range li] at hi
        simpa using hi.symm
      obtain ⟨z8, z9, d3, junk, e, ok3, nr3⟩ := inner (S := S) (j := i) (x2 := x2) (x8 := y8) (x9 := y9) ok (by omega) nr b1 b2
      exact ⟨_, _, _, rfl, e, some (.int i), z8, z9, d3, rest' ++ junk, rfl, rfl, ok3.mono (by omega), nr3⟩)
    ⟨x7, x8, x9, d2, _, rfl, rfl, h2.mono (by omega), hr2⟩
  refine ⟨some (pairD a b), y7, y8, y9, d', rest', ?_, ok.mono (by simp), nr⟩
  unfold outerBody
  have it12 : ∀ ah, iRange1 (.int 12) ah = .ok ⟨(List.range 12).map fun (i : Nat) => D.int i, []⟩ ah := fun ah => iRange1_nat 12 ah
  simp [e1, e2, line, it12, -List.append_assoc, -iRange1_nat]
  exact e3
def deepBody : SM := (sAsg (e2 (lLst (aCons (eTup (aCons (eVar 3) aNil)) (aCons (eNew (lLst (aCons (eVar 3) aNil))) (aCons (eDisp [((eC (.int 0)), (eVar 3))]) (aCons (eTup (aCons (eC (.int 0)) (aCons (eVar 3) aNil))) aNil))))) (e2 (eVar 4) (eC (.int 4)) oMod) lIx) (gSet 3))
theorem deepen {S : List D} {d : Dk} {rest : AH} {deep : D} {n w j : Nat} {x2 x5 x6 x7 x8 x9 : Option D} (hr : NoRo rest) (hd : DatR rest (n + 1) w 10 deep) :
    ∃ (deep' : D) (junk : AH), deepBody [some (.ref 0), some (.ref 2), x2, some deep, some (.int j), x5, x6, x7, x8, x9] (hA S d rest) = .nx [some (.ref 0), some (.ref 2), x2, some deep', some (.int j), x5, x6, x7, x8, x9] (hA S d (rest ++ junk)) ∧ DatR (rest ++ junk) (n + 2) (w + 10) 10 deep' ∧ NoRo (rest ++ junk) := by
  let junk : AH := [.lst [deep], .dK [(.inl 0, deep)]]
  let L : List D := [.tup [deep], .ref (rest.length + 3), .ref (rest.length + 1 + 3), .tup [.int 0, deep]]
  have hj : j % 4 < L.length := Nat.mod_lt _ (by decide)
  obtain ⟨x, hx, ex⟩ := lIx_mem (ds := L) (i := j % 4) (hA S d (rest ++ junk)) hj
  have md : ∀ ah, oMod (.int j) (.int 4) ah = .ok (.int ((j : Int) % 4)) ah := fun ah => oMod_int ah (by decide)
  rw [show (((j % 4 : Nat)) : Int) = (j : Int) % 4 by simp] at ex
  obtain ⟨p, hp, ht, hw⟩ := hd
  have le : Le (dead rest) (dead (rest ++ junk)) := dead_app
  have hp' : toP (dead (rest ++ junk)) (n + 1) deep = some p := toP_heap le _ _ _ _ (Nat.le_refl _) hp
  have g0 : (dead (rest ++ junk))[rest.length + 3]? = some (.lst [deep]) := by rw [dead_get]; simp [junk]
  have g1 : (dead (rest ++ junk))[rest.length + 1 + 3]? = some (.dK [(.inl 0, deep)]) := by rw [dead_get]; simp [junk]
  refine ⟨x, junk, ?_, ?_, noRo_app hr fun o ho => ?_⟩
  · unfold deepBody
    simp only [L, junk] at ex
    simp [line, hA_app, hA_length, dKey, optAll, dispD, putD, md, ex, junk]
  · simp only [L, List.mem_cons, List.not_mem_nil, or_false] at hx
    rcases hx with rfl | rfl | rfl | rfl
    · exact Dat.tup (ps := [p]) (by simp [optAll, hp']) (by simp [tames, ht]) (by simp [PyData.weightAll]; omega)
    · exact Dat.lst (ps := [p]) g0 (by simp [optAll, hp']) (by simp [tames, ht]) (by simp [PyData.weightAll]; omega)
    · refine ⟨.dict [(.int 0, p)], ?_, ?_, ?_⟩
      · rw [toP_dk _ _ g1]; simp [optAll, hp', keyP]
      · simp [tame, tameKv, ht]
      · simp [PyData.weight, PyData.weightKv]; omega
    · refine Dat.tup (ps := [.int 0, p]) (by simp [optAll, hp']) (by simp [tames, tame, ht]) (by simp [PyData.weightAll, PyData.weight]; omega)
  · simp only [junk, List.mem_cons, List.not_mem_nil, or_false] at ho
    rcases ho with rfl | rfl <;> rfl
theorem rg5 (ah : AH) : lRange2 (.int (-2)) (.int 3) ah = .ok [.int (-2), .int (-1), .int 0, .int 1, .int 2] ah := by
  unfold lRange2 lRange
  simp only
  rw [if_pos (by decide)]
  rfl
def eA : EM (List D) := (lLst (aCons (eC .non) (aCons (eC (.bl true)) (aCons (eC (.bl false)) (aCons (eC (.str "")) (aCons (eC (.str "0")) (aCons (eTup aNil) (aCons (eNew (lLst aNil)) (aCons eDnew (aCons (eTup (aCons (eC (.int 0)) aNil)) (aCons (eNew (lLst (aCons (eC (.int 0)) (aCons (eC (.int 1)) aNil)))) (aCons (eTup (aCons (eC (.int 0)) (aCons (eC (.int 1)) (aCons (eC (.int 2)) aNil)))) (aCons (eTup (aCons (eC (.bl true)) (aCons (eC (.int 1)) aNil))) (aCons (eTup (aCons (eC (.int 0)) (aCons (eC (.bl true)) aNil))) (aCons (eTup (aCons (eC (.str "0")) (aCons (eC (.int 1)) aNil))) (aCons (eTup (aCons (eC (.int 0)) (aCons (eC .non) aNil))) aNil))))))))))))))))
def eBb : EM (List D) := (lLst (aCons (eTup (aCons (e1 (eC (.int 1)) oNeg) (aCons (eC (.int 0)) aNil))) (aCons (eTup (aCons (e1 (eC (.int 1)) oNeg) (aCons (eC (.int 999)) aNil))) (aCons (eTup (aCons (e1 (eC (.int 2)) oNeg) (aCons (eC (.int 0)) aNil))) (aCons (eTup (aCons (eC (.int 0)) (aCons (eC (.int 1000)) aNil))) (aCons (eTup (aCons (e2 (eC (.int 10)) (eC (.int 39)) oPow) (aCons (eC (.int 999)) aNil))) (aCons (eTup (aCons (eC (.int 0)) (aCons (e1 (eC (.int 1)) oNeg) aNil))) (aCons (eDisp [((eC (.int 0)), (eC (.int 1)))]) (aCons (eTup (aCons (eTup (aCons (eC (.int 0)) (aCons (eC (.int 1)) aNil))) aNil)) (aCons (eVar 3) aNil))))))))))
def eR : SM := (sRet (eB (bNil false (lLc (iNew (e2 (tNew (e2 (tOur (eVar 5)) (tNew (e2 (e1 (eC (.int 2)) oNeg) (eC (.int 3)) lRange2)) lCat)) (tNew (lLst (aCons (eC (.int 998)) (aCons (eC (.int 999)) (aCons (eC (.int 1000)) aNil))))) lCat)) (gSet 9) (bNot (e1 (e1 (aCons (eVar 9) aNil) m__law_right) truth)) (eVar 9) [9]))))
def tailBody : SM := (sSeq (sAsg (eNew eA) (gSet 5)) (sSeq (sAsg (eNew (e2 (tOur (eVar 5)) (tNew eBb) lCat)) (gSet 5)) eR))
def lA (r : Nat) : List D := [.non, .bl true, .bl false, .str "", .str "0", .tup [], .ref (r + 3), .ref (r + 3 + 1), .tup [.int 0], .ref (r + 3 + 1 + 1), .tup [.int 0, .int 1, .int 2], .tup [.bl true, .int 1], .tup [.int 0, .bl true], .tup [.str "0", .int 1], .tup [.int 0, .non]]
def lB (r : Nat) (deep : D) : List D := [.tup [.int (-1), .int 0], .tup [.int (-1), .int 999], .tup [.int (-2), .int 0], .tup [.int 0, .int 1000], .tup [.int 1000000000000000000000000000000000000000, .int 999], .tup [.int 0, .int (-1)], .ref (r + 4 + 3), .tup [.tup [.int 0, .int 1]], deep]
def hJ (r : Nat) : AH := [.lst [], .dK [], .lst [.int 0, .int 1], .lst (lA r), .dK [(.inl 0, .int 1)]]
def lC : List D := [.int (-2), .int (-1), .int 0, .int 1, .int 2]
def lE : List D := [.int 998, .int 999, .int 1000]
section
variable {S : List D} {d : Dk} {rest : AH} {deep : D} {x2 x4 x6 x7 x8 x9 : Option D}
theorem fin_g3 : ltOf (.inr (rest.length + 3 + 3)) (hA S d (rest ++ hJ rest.length)) = some (lA rest.length) := by
  unfold ltOf
  simp only
  rw [hA_get, List.getElem?_append_right (by omega), show rest.length + 3 - rest.length = 3 by omega]
  rfl
theorem fin_g4 : ltOf (.inr (rest.length + 5 + 3)) (hA S d (rest ++ (hJ rest.length ++ [.lst (lA rest.length ++ lB rest.length deep)]))) = some (lA rest.length ++ lB rest.length deep) := by
  unfold ltOf
  simp only
  rw [hA_get, List.getElem?_append_right (by omega), show rest.length + 5 - rest.length = 5 by omega]
  rfl
theorem fin_all (hr : NoRo rest) (hd : DatR rest 30 290 10 deep) : ∀ x ∈ (lA rest.length ++ lB rest.length deep ++ lC) ++ lE, m__law_right [x] (hA S d (rest ++ (hJ rest.length ++ [.lst (lA rest.length ++ lB rest.length deep)]))) = .ok (.bl true) (hA S d (rest ++ (hJ rest.length ++ [.lst (lA rest.length ++ lB rest.length deep)]))) := by
  have nrR : NoRo (rest ++ (hJ rest.length ++ [.lst (lA rest.length ++ lB rest.length deep)])) := noRo_app hr fun o ho => by
    simp only [hJ, List.cons_append, List.nil_append, List.mem_cons, List.not_mem_nil, or_false] at ho
    rcases ho with rfl | rfl | rfl | rfl | rfl | rfl <;> rfl
  have hd' : DatR (rest ++ (hJ rest.length ++ [.lst (lA rest.length ++ lB rest.length deep)])) 30 290 (10 ^ 40) deep := Dat.mono hd dead_app (by decide) (Nat.le_refl _) (Nat.le_refl _)
  have get : ∀ k, (dead (rest ++ (hJ rest.length ++ [.lst (lA rest.length ++ lB rest.length deep)])))[rest.length + k + 3]? = (hJ rest.length ++ [.lst (lA rest.length ++ lB rest.length deep)])[k]? := fun k => by
    rw [dead_get, List.getElem?_append_right (by omega), show rest.length + k - rest.length = k by omega]
  have g0 : (dead (rest ++ (hJ rest.length ++ [.lst (lA rest.length ++ lB rest.length deep)])))[rest.length + 3]? = some (.lst []) := get 0
  have g1 : (dead (rest ++ (hJ rest.length ++ [.lst (lA rest.length ++ lB rest.length deep)])))[rest.length + 3 + 1]? = some (.dK []) := get 1
  have g2 : (dead (rest ++ (hJ rest.length ++ [.lst (lA rest.length ++ lB rest.length deep)])))[rest.length + 3 + 1 + 1]? = some (.lst [.int 0, .int 1]) := get 2
  have g4 : (dead (rest ++ (hJ rest.length ++ [.lst (lA rest.length ++ lB rest.length deep)])))[rest.length + 4 + 3]? = some (.dK [(.inl 0, .int 1)]) := get 4
  generalize rest ++ (hJ rest.length ++ [.lst (lA rest.length ++ lB rest.length deep)]) = R at nrR hd' g0 g1 g2 g4 ⊢
  intro x hx
  have key : Dat (10 ^ 40) (dead R) 30 3000 x := by
    have lf : ∀ {y : D} {p : PyData}, toP (dead R) 30 y = some p → tame (10 ^ 40) p = true → p.weight ≤ 3000 → Dat (10 ^ 40) (dead R) 30 3000 y := fun h1 h2 h3 => ⟨_, h1, h2, h3⟩
    rw [List.mem_append, List.mem_append, List.mem_append] at hx
    rcases hx with ((h | h) | h) | h
    · simp only [lA, List.mem_cons, List.not_mem_nil, or_false] at h
      rcases h with rfl | rfl | rfl | rfl | rfl | rfl | rfl | rfl | rfl | rfl | rfl | rfl | rfl | rfl | rfl
      · exact lf rfl rfl (by decide +kernel)
      · exact lf rfl rfl (by decide +kernel)
      · exact lf rfl rfl (by decide +kernel)
      · exact lf rfl (by decide +kernel) (by decide +kernel)
      · exact lf rfl (by decide +kernel) (by decide +kernel)
      · exact lf rfl (by decide +kernel) (by decide +kernel)
      · exact lf (toP_lst _ _ g0) (by decide +kernel) (by decide +kernel)
      · exact lf (toP_dk _ _ g1) (by decide +kernel) (by decide +kernel)
      · exact lf rfl (by decide +kernel) (by decide +kernel)
      · exact lf (toP_lst _ _ g2) (by decide +kernel) (by decide +kernel)
      · exact lf rfl (by decide +kernel) (by decide +kernel)
      · exact lf rfl (by decide +kernel) (by decide +kernel)
      · exact lf rfl (by decide +kernel) (by decide +kernel)
      · exact lf rfl (by decide +kernel) (by decide +kernel)
      · exact lf rfl (by decide +kernel) (by decide +kernel)
    · simp only [lB, List.mem_cons, List.not_mem_nil, or_false] at h
      rcases h with rfl | rfl | rfl | rfl | rfl | rfl | rfl | rfl | rfl
      · exact lf rfl (by decide +kernel) (by decide +kernel)
      · exact lf rfl (by decide +kernel) (by decide +kernel)
      · exact lf rfl (by decide +kernel) (by decide +kernel)
      · exact lf rfl (by decide +kernel) (by decide +kernel)
      · exact lf rfl (by decide +kernel) (by decide +kernel)
      · exact lf rfl (by decide +kernel) (by decide +kernel)
      · exact lf (toP_dk _ _ g4) (by decide +kernel) (by decide +kernel)
      · exact lf rfl (by decide +kernel) (by decide +kernel)
      · exact Dat.up hd' (Nat.le_refl _) (Nat.le_refl _) (by decide)
    · simp only [lC, List.mem_cons, List.not_mem_nil, or_false] at h
      rcases h with rfl | rfl | rfl | rfl | rfl <;> exact lf rfl (by decide +kernel) (by decide +kernel)
    · simp only [lE, List.mem_cons, List.not_mem_nil, or_false] at h
      rcases h with rfl | rfl | rfl <;> exact lf rfl (by decide +kernel) (by decide +kernel)
  exact right_of key nrR (by decide) (by decide) (by decide)
theorem fin_cmp (hr : NoRo rest) (hd : DatR rest 30 290 10 deep) : lcLoop ⟨(lA rest.length ++ lB rest.length deep ++ lC) ++ lE, []⟩ (gSet 9) (bNot (e1 (e1 (aCons (eVar 9) aNil) m__law_right) truth)) (eVar 9) [9] [some (.ref 0), some (.ref 2), x2, some deep, x4, some (.ref (rest.length + 5 + 3)), x6, x7, x8, x9] ((lA rest.length ++ lB rest.length deep ++ lC) ++ lE) []
    (hA S d (rest ++ (hJ rest.length ++ [.lst (lA rest.length ++ lB rest.length deep)]))) = .ok [] (hA S d (rest ++ (hJ rest.length ++ [.lst (lA rest.length ++ lB rest.length deep)]))) :=
  lcLoop_none rfl _ [] (by simp [line]) fun x hx => ⟨_, rfl, by
    have := fin_all (S := S) (d := d) hr hd x hx
    simp only [wipeE, bNot_def, e1_def, aCons_def, aNil_def, Res.bind_ok, List.set_cons_succ, List.set_cons_zero, eVar_succ, eVar_zero, this, truth_bl]
    rfl⟩
theorem fin_A (env : HA.Env) : eA env (hA S d rest) = .ok (lA rest.length) (hA S d (rest ++ [.lst [], .dK [], .lst [.int 0, .int 1]])) := by
  unfold eA lA
  simp [line, hA_app, hA_length]
theorem fin_B {x5 : Option D} {X : AH} : eBb [some (.ref 0), some (.ref 2), x2, some deep, x4, x5, x6, x7, x8, x9] (hA S d (rest ++ (X ++ [.lst (lA rest.length)]))) = .ok [.tup [.int (-1), .int 0], .tup [.int (-1), .int 999], .tup [.int (-2), .int 0], .tup [.int 0, .int 1000], .tup [.int 1000000000000000000000000000000000000000, .int 999], .tup [.int 0, .int (-1)], .ref (rest.length + (X.length + 1) + 3), .tup [.tup [.int 0, .int 1]], deep] (hA S d (rest ++ (X ++ [.lst (lA rest.length), .dK [(.inl 0, .int 1)]]))) := by
  have p39 : ∀ ah, oPow (.int 10) (.int 39) ah = .ok (.int 1000000000000000000000000000000000000000) ah := fun ah => oPow_int ah (by decide)
  unfold eBb
  simp [line, hA_app, hA_length, p39, dKey, optAll, dispD, putD]
theorem fin_R (hr : NoRo rest) (hd : DatR rest 30 290 10 deep) : eR [some (.ref 0), some (.ref 2), x2, some deep, x4, some (.ref (rest.length + 5 + 3)), x6, x7, x8, x9] (hA S d (rest ++ (hJ rest.length ++ [.lst (lA rest.length ++ lB rest.length deep)]))) = .rt (.bl true) (hA S d (rest ++ (hJ rest.length ++ [.lst (lA rest.length ++ lB rest.length deep)]))) := by
  have g4 := fin_g4 (S := S) (d := d) (rest := rest) (deep := deep)
  have cmp := fin_cmp (S := S) (d := d) (rest := rest) (deep := deep) (x2 := x2) (x4 := x4) (x6 := x6) (x7 := x7) (x8 := x8) (x9 := x9) hr hd
  generalize hA S d (rest ++ (hJ rest.length ++ [.lst (lA rest.length ++ lB rest.length deep)])) = ah at g4 cmp ⊢
  have q5 : lRange2 (.int (-2)) (.int 3) ah = .ok lC ah := rg5 ah
  have ll : (lA rest.length ++ lB rest.length deep).length = 24 := rfl
  have lc : lC.length = 5 := rfl
  generalize lA rest.length ++ lB rest.length deep = AB at g4 cmp ll
  have nl : ∀ ah, lNil false [] ah = .ok true ah := fun _ => rfl
  have f1 : ∀ env, lLst (aCons (eC (.int 998)) (aCons (eC (.int 999)) (aCons (eC (.int 1000)) aNil))) env ah = .ok lE ah := fun env => by simp [line, lE]
  have c1 : lCat (.inr (rest.length + 5 + 3)) (.inl lC) ah = .ok (AB ++ lC) ah := lCat_ok g4 rfl (by rw [ll, lc]; simp [line])
  have c2 : lCat (.inl (AB ++ lC)) (.inl lE) ah = .ok (AB ++ lC ++ lE) ah := lCat_ok rfl rfl (by rw [List.length_append, ll, lc]; simp [line, lE])
  unfold eR
  simp only [sRet_def, eB_def, bNil_def, lLc_def, iNew_def, e2_def, tNew_def, tOur_def, eVar_succ, eVar_zero, Res.bind_ok, e1_def, eC_def, oNeg_int, q5, c1, c2, f1, cmp, nl, thenS_ok]
theorem finish (hr : NoRo rest) (hd : DatR rest 30 290 10 deep) :
    ∃ ah', tailBody [some (.ref 0), some (.ref 2), x2, some deep, x4, none, x6, x7, x8, x9] (hA S d rest) = .rt (.bl true) ah' := by
  have g3 := fin_g3 (S := S) (d := d) (rest := rest)
  have R := fin_R (S := S) (d := d) (x2 := x2) (x4 := x4) (x6 := x6) (x7 := x7) (x8 := x8) (x9 := x9) hr hd
  refine ⟨hA S d (rest ++ (hJ rest.length ++ [.lst (lA rest.length ++ lB rest.length deep)])), ?_⟩
  have A1 := fin_A (S := S) (d := d) (rest := rest)
  have B1 := fun x5 => fin_B (S := S) (d := d) (rest := rest) (deep := deep) (x2 := x2) (x4 := x4) (x5 := x5) (x6 := x6) (x7 := x7) (x8 := x8) (x9 := x9) (X := [.lst [], .dK [], .lst [.int 0, .int 1]])
  have eJ : ([.lst [], .dK [], .lst [.int 0, .int 1]] ++ [.lst (lA rest.length), .dK [(.inl 0, .int 1)]] : AH) = hJ rest.length := rfl
  have eB : [D.tup [.int (-1), .int 0], .tup [.int (-1), .int 999], .tup [.int (-2), .int 0], .tup [.int 0, .int 1000], .tup [.int 1000000000000000000000000000000000000000, .int 999], .tup [.int 0, .int (-1)], .ref (rest.length + (([.lst [], .dK [], .lst [.int 0, .int 1]] : AH).length + 1) + 3), .tup [.tup [.int 0, .int 1]], deep] = lB rest.length deep := rfl
  rw [eJ, eB] at B1
  have c : lCat (.inr (rest.length + 3 + 3)) (.inl (lB rest.length deep)) (hA S d (rest ++ hJ rest.length)) = .ok (lA rest.length ++ lB rest.length deep) (hA S d (rest ++ hJ rest.length)) := lCat_ok g3 rfl (by
    rw [show (lA rest.length).length = 15 from rfl, show (lB rest.length deep).length = 9 from rfl]; simp [line])
  have l1 : (rest ++ ([.lst [], .dK [], .lst [.int 0, .int 1]] : AH)).length + 3 = rest.length + 3 + 3 := by simp
  have l2 : (rest ++ hJ rest.length).length + 3 = rest.length + 5 + 3 := by rw [List.length_append, show (hJ rest.length).length = 5 from rfl]
  unfold tailBody
  rw [sSeq_def, sAsg_set, eNew_def, A1, Res.bind_ok, thenS_ok, next_nx, hA_length, hA_app, List.append_assoc, l1]
  rw [sSeq_def, sAsg_set, eNew_def, e2_def, tOur_def]
  simp only [List.set_cons_succ, List.set_cons_zero, eVar_succ, eVar_zero, Res.bind_ok, tNew_def, B1, c, thenS_ok, next_nx, hA_length, hA_app, List.append_assoc, l2]
  exact R
end
theorem law_true (ns : List Int) (hl : ns.length ≤ 63) : ∃ ah', m_law [.ref 0] (ah0 ns) = .ok (.bl true) ah' := by
  let S : List D := ns.map D.int
  -- the drawn things
  let P1 : Nat → HA.Env → AH → Prop := fun i env ah => ∃ (x2 x6 x7 x8 x9 : Option D) (d : Dk) (rest : AH), env = [some (.ref 0), some (.ref 2), x2, none, none, none, x6, x7, x8, x9] ∧ ah = hA S d rest ∧ DOk (5000 * i) d ∧ NoRo rest
  obtain ⟨env1, ah1, e1, x2, x6, x7, x8, x9, d1, rest1, rfl, rfl, ok1, nr1⟩ := forLoop_ind (t := ⟨(List.range 4).map fun (i : Nat) => D.int i, []⟩) (tm := gSet 2) (body := outerBody) (fun _ => rfl) P1 ((List.range 4).map fun (i : Nat) => D.int i) 0 [some (.ref 0), some (.ref 2), none, none, none, none, none, none, none, none] (hA S (dkA ns) [])
    (fun i it env ah hi ⟨x2, x6, x7, x8, x9, d, rest, e1, e2, ok, nr⟩ => by
      subst e1; subst e2
      have li : i < 4 := by have := (List.getElem?_eq_some_iff.mp hi).1; simpa using this
      obtain rfl : it = .int i := by
        rw [List.getElem?_map, List.getElem?_range li] at hi
        simpa using hi.symm
      obtain ⟨y6, y7, y8, y9, d', rest', e, ok', nr'⟩ := outer (S := S) (x2 := some (.int i)) (x6 := x6) (x7 := x7) (x8 := x8) (x9 := x9) ok (by omega) nr
      exact ⟨_, _, _, rfl, e, some (.int i), y6, y7, y8, y9, d', rest', rfl, rfl, ok'.mono (by omega), nr'⟩)
    ⟨none, none, none, none, none, dkA ns, [], rfl, rfl, (dkA_ok hl).mono (by omega), fun o ho => by cases ho⟩
  -- the deep thing
  let P2 : Nat → HA.Env → AH → Prop := fun i env ah => ∃ (deep : D) (x4 : Option D) (rest : AH), env = [some (.ref 0), some (.ref 2), x2, some deep, x4, none, x6, x7, x8, x9] ∧ ah = hA S d1 rest ∧ DatR rest (i + 2) (10 + 10 * i) 10 deep ∧ NoRo rest
  obtain ⟨env2, ah2, e2, deep, x4, rest, rfl, rfl, hd, nr⟩ := forLoop_ind (t := ⟨(List.range 28).map fun (i : Nat) => D.int i, []⟩) (tm := gSet 4) (body := deepBody) (fun _ => rfl) P2 ((List.range 28).map fun (i : Nat) => D.int i) 0 [some (.ref 0), some (.ref 2), x2, some (.tup [.int 0, .int 1]), none, none, x6, x7, x8, x9] (hA S d1 rest1)
    (fun i it env ah hi ⟨deep, x4, rest, e1, e2, hd, nr⟩ => by
      subst e1; subst e2
      have li : i < 28 := by have := (List.getElem?_eq_some_iff.mp hi).1; simpa using this
      obtain rfl : it = .int i := by
        rw [List.getElem?_map, List.getElem?_range li] at hi
        simpa using hi.symm
      obtain ⟨deep', junk, e, hd', nr'⟩ := deepen (S := S) (d := d1) (j := i) (x2 := x2) (x5 := none) (x6 := x6) (x7 := x7) (x8 := x8) (x9 := x9) nr (n := 0 + i + 1) hd
      exact ⟨_, _, _, rfl, e, deep', some (.int i), rest ++ junk, rfl, rfl, Dat.up hd' (Nat.le_refl _) (by omega) (by omega), nr'⟩)
    ⟨.tup [.int 0, .int 1], none, rest1, rfl, rfl, ⟨_, rfl, by decide, by decide⟩, nr1⟩
  unfold m_law b_law
  rw [fnR_1]
  have dk := deck_A hl
  have it4 : ∀ ah, iRange1 (.int 4) ah = .ok ⟨(List.range 4).map fun (i : Nat) => D.int i, []⟩ ah := fun ah => iRange1_nat 4 ah
  have it28 : ∀ ah, iRange1 (.int 28) ah = .ok ⟨(List.range 28).map fun (i : Nat) => D.int i, []⟩ ah := fun ah => iRange1_nat 28 ah
  rw [sSeq_def, sAsg_set, e1_def, aCons_def, eVar_zero, Res.bind_ok, aNil_def, Res.bind_ok, Res.bind_ok, e_deck, dk, thenS_ok, next_nx, sSeq_def, sFor_def, e1_def, eC_def, Res.bind_ok, it4, thenS_ok]
  erw [e1]
  rw [next_nx, sSeq_def, sAsg_set]
  have tp : ∀ env ah, eTup (aCons (eC (.int 0)) (aCons (eC (.int 1)) aNil)) env ah = .ok (.tup [.int 0, .int 1]) ah := fun env ah => by simp [line]
  obtain ⟨ah3, e3⟩ := finish (S := S) (d := d1) (x2 := x2) (x4 := x4) (x6 := x6) (x7 := x7) (x8 := x8) (x9 := x9) nr (Dat.up hd (Nat.le_refl _) (by simp) (by simp))
  rw [tp, thenS_ok, next_nx, sSeq_def, sFor_def, e1_def, eC_def, Res.bind_ok, it28, thenS_ok]
  erw [e2]
  rw [next_nx]
  exact ⟨ah3, congrArg SRes.out e3⟩
end HL

open PySem PySem.W PyProof.Rows
set_option maxRecDepth 100000 in
set_option maxHeartbeats 8000000 in
theorem PySem.Challenge.cw_heldaddresses_k04_numbers_and_addresses_holds : PySem.Challenge.rw_heldaddresses_k04_numbers_and_addresses.Holds := by
  w_on
  o_law
  k_head
  (case hw => w_witness2)
  k_fill
  refine HA.walk_G (l := PySem.Challenge.rw_heldaddresses_k04_numbers_and_addresses) (k := 23) (x := "_law_script") (m := HL.m_law) rfl rfl (HA.rm_caller (by decide)) (fun w h Y => PySem.W.kIn_of Y) ?F (fun ns hl => HL.law_true ns hl)
  case F =>
    intro w mg fa h KX G hmg
    refine' HL.all_mk KX G hmg ?n0 ?l0 ?cd_0 ?k0 ?n1 ?l1 ?cd_1 ?k1 ?n2 ?l2 ?cd_2 ?k2 ?n3 ?l3 ?cd_3 ?k3 ?n4 ?l4 ?cd_4 ?k4 ?n5 ?l5 ?cd_5 ?k5 ?n6 ?l6 ?cd_6 ?k6 ?n7 ?l7 ?cd_7 ?k7 ?n8 ?l8 ?cd_8 ?k8 ?n9 ?l9 ?cd_9 ?k9 ?n10 ?l10 ?cd_10 ?k10 ?n11 ?l11 ?cd_11 ?k11 ?n12 ?l12 ?cd_12 ?k12 ?b_bool ?b_int ?b_isinstance ?b_len ?b_list ?b_range ?b_repr ?b_str ?b_sum ?b_tuple ?c_NUMBERS ?c_NO_ROOM
    (case n0 => k_is)
    (case l0 => k_is)
    (case cd_0 => k_is)
    (case k0 => k_is)
    (case n1 => k_is)
    (case l1 => k_is)
    (case cd_1 => k_is)
    (case k1 => k_is)
    (case n2 => k_is)
    (case l2 => k_is)
    (case cd_2 => k_is)
    (case k2 => k_is)
    (case n3 => k_is)
    (case l3 => k_is)
    (case cd_3 => k_is)
    (case k3 => k_is)
    (case n4 => k_is)
    (case l4 => k_is)
    (case cd_4 => k_is)
    (case k4 => k_is)
    (case n5 => k_is)
    (case l5 => k_is)
    (case cd_5 => k_is)
    (case k5 => k_is)
    (case n6 => k_is)
    (case l6 => k_is)
    (case cd_6 => k_is)
    (case k6 => k_is)
    (case n7 => k_is)
    (case l7 => k_is)
    (case cd_7 => k_is)
    (case k7 => k_is)
    (case n8 => k_is)
    (case l8 => k_is)
    (case cd_8 => k_is)
    (case k8 => k_is)
    (case n9 => k_is)
    (case l9 => k_is)
    (case cd_9 => k_is)
    (case k9 => k_is)
    (case n10 => k_is)
    (case l10 => k_is)
    (case cd_10 => k_is)
    (case k10 => k_is)
    (case n11 => k_is)
    (case l11 => k_is)
    (case cd_11 => k_is)
    (case k11 => k_is)
    (case n12 => k_is)
    (case l12 => k_is)
    (case cd_12 => k_is)
    (case k12 => k_is)
    (case b_bool => k_is)
    (case b_int => k_is)
    (case b_isinstance => k_is)
    (case b_len => k_is)
    (case b_list => k_is)
    (case b_range => k_is)
    (case b_repr => k_is)
    (case b_str => k_is)
    (case b_sum => k_is)
    (case b_tuple => k_is)
    (case c_NUMBERS => k_is)
    (case c_NO_ROOM => k_is)
