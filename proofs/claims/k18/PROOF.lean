import PyProof.Rows.All
import Wide.All
import OpenK.AllK
import Wide.FinOn
import PyProof.EqAt
import PyProof.EqKinds
import PyProof.TupleCall
import HandS.ForMost
import HandS.ForSpec
import HandS.Flow
import HandS.Style
import HandS.Conv
import HandS.IsInst
import HandS.TupAny
import HandS.TupMul
import HandS.Zip
import HandS.Small
import HandS.Rev
import HandS.SortOrd
import HandS.Wide
import HandS.RaiseMore
import PyProof.Rows.IntBool
import PyProof.Rows.RuleB_bool
import PyProof.NeKinds
import HandS.WordsExc
import HandS.More
import KE.KRevSl
import PyProof.ReprLen
import PyProof.WalksMore
import HandS.SortKw
import KE.DataMinMax
import KE.GoesMore
import KE.GoesEnumKw
import HandS.SortRule
import HandS.SortInts
import PySem.Challenge.RW_heldaddresses_k18_whole_rooms_at_right_b
set_option Elab.async false
set_option linter.all false
set_option maxRecDepth 100000
set_option maxHeartbeats 4000000
/-! HA1: data by value over the abstract heap: D, AH, Rep, Sim, results, judgements. -/
namespace HA
open PySem PySem.Spec PyProof.Rows L2

/-- data: tuples by value, mutable things as numbers of objects -/
inductive D where
  | non | bl (b : Bool) | int (i : Int) | str (x : Str) | tup (ds : List D) | ref (n : Nat) | cst (v : V)
deriving Inhabited

/-- the objects that change -/
inductive AObj where
  | lst (ds : List D)
  /-- a list that is only read (the script) -/
  | ro (ds : List D)
  | dK (kvs : List (Key × D))
  | dT (kvs : List (List Key × D))
  | ins (C : Addr) (fs : List (Str × D))
deriving Inhabited
abbrev AH := List AObj

section
variable (K : PySem.W.Frag) (μ : List Addr) (H : Hp)
mutual
def Rep : D → V → Prop
  | .non, v => v = .non
  | .bl b, v => v = .bl b
  | .int i, v => v = .int i
  | .str x, v => v = .str x
  | .ref n, v => ∃ a, μ[n]? = some a ∧ v = .ref a
  | .cst w, v => v = w
  | .tup ds, v => ∃ a vs, v = .ref a ∧ SqT K H a vs ∧ Reps ds vs
def Reps : List D → List V → Prop
  | [], vs => vs = []
  | d :: ds, vs => ∃ w ws, vs = w :: ws ∧ Rep d w ∧ Reps ds ws
end
def OOk (a : Addr) : AObj → Prop
  | .lst ds => ∃ vs, H a = some (.lst vs) ∧ Reps K μ H ds vs
  | .ro ds => ∃ vs, ((∃ o, H a = some (.frz o (.lst vs))) ∨ ∃ (o : Obj) (its : Array Value) (n : Nat), K.lookup a = some o ∧ o.cls = .type "list" ∧ o.dict = none ∧ o.data = .seq its n ∧ its.size ≤ sizeLine ∧ Vals vs its.toList) ∧ Reps K μ H ds vs
  | .dK kvs => ∃ kws : List (Key × V), H a = some (.dK kws) ∧ kvs.map (·.1) = kws.map (·.1) ∧ Reps K μ H (kvs.map (·.2)) (kws.map (·.2))
  | .dT kvs => ∃ kws : List (List Key × V), H a = some (.dT kws) ∧ kvs.map (·.1) = kws.map (·.1) ∧ Reps K μ H (kvs.map (·.2)) (kws.map (·.2))
  | .ins C fs => ∃ dx, ∃ fws : List (Str × V), H a = some (.ins C dx fws) ∧ fs.map (·.1) = fws.map (·.1) ∧ Reps K μ H (fs.map (·.2)) (fws.map (·.2))
def AObj.isRo : AObj → Bool
  | .ro _ => true
  | _ => false
structure Sim (ah : AH) : Prop where
  len : μ.length = ah.length
  nd : ∀ (n m : Nat) (a : Addr) (o o' : AObj), μ[n]? = some a → μ[m]? = some a → ah[n]? = some o → ah[m]? = some o' → o.isRo = false → o'.isRo = false → n = m
  ok : ∀ (n : Nat) (a : Addr) (o : AObj), μ[n]? = some a → ah[n]? = some o → OOk K μ H a o
  pos : 0 < ah.length
  ro0 : ∀ (n : Nat) (o : AObj), ah[n]? = some o → (o.isRo = true ↔ n = 0)
end
/-- tuples that are read stay -/
def TExt (K : PySem.W.Frag) (H H' : Hp) : Prop := ∀ a xs, SqT K H a xs → SqT K H' a xs
def EnvRel (K : PySem.W.Frag) (μ : List Addr) (H : Hp) (env : List (Option D)) (σ : L2.St) : Prop :=
  env.length = σ.length ∧ ∀ (i : Nat) (d : D), env[i]? = some (some d) → ∃ v, σ[i]? = some (some v) ∧ Rep K μ H d v

variable {K : PySem.W.Frag} {μ μ' μ'' : List Addr} {H H' H'' : Hp}
theorem TExt.refl : TExt K H H := fun _ _ h => h
theorem TExt.trans (a : TExt K H H') (b : TExt K H' H'') : TExt K H H'' := fun x xs h => b x xs (a x xs h)
theorem TExt.new {p : Addr} {o : HO} (h : H p = none) : TExt K H (upd H p o) := fun a xs q => by
  rcases q with (q | ⟨u, q⟩) | q
  · exact .inl (.inl (by rw [upd_ne (ne_of_none q h)]; exact q))
  · exact .inl (.inr ⟨u, by rw [upd_ne (ne_of_none q h)]; exact q⟩)
  · exact .inr q
theorem TExt.mut {p : Addr} {o : HO} (h : Mut (H p)) : TExt K H (upd H p o) := fun a xs q => by
  rcases q with (q | ⟨u, q⟩) | q
  · exact .inl (.inl (by rw [upd_ne (fun z => by subst z; rw [q] at h; exact h)]; exact q))
  · exact .inl (.inr ⟨u, by rw [upd_ne (fun z => by subst z; rw [q] at h; exact h)]; exact q⟩)
  · exact .inr q
theorem pre_get (h : μ <+: μ') {n : Nat} {a : Addr} (e : μ[n]? = some a) : μ'[n]? = some a := by
  obtain ⟨r, rfl⟩ := h
  rw [List.getElem?_append_left (List.getElem?_eq_some_iff.mp e).1]; exact e

mutual
theorem Rep.mono (hμ : μ <+: μ') (hH : TExt K H H') : ∀ (d : D) (v : V), Rep K μ H d v → Rep K μ' H' d v
  | .non, _, h => by simp only [Rep] at h ⊢; exact h
  | .bl b, _, h => by simp only [Rep] at h ⊢; exact h
  | .int i, _, h => by simp only [Rep] at h ⊢; exact h
  | .str x, _, h => by simp only [Rep] at h ⊢; exact h
  | .ref n, _, h => by
    simp only [Rep] at h ⊢
    obtain ⟨a, e, q⟩ := h
    exact ⟨a, pre_get hμ e, q⟩
  | .cst w, _, h => by simp only [Rep] at h ⊢; exact h
  | .tup ds, _, h => by
    simp only [Rep] at h ⊢
    obtain ⟨a, vs, e, q, r⟩ := h
    exact ⟨a, vs, e, hH _ _ q, Reps.mono hμ hH ds vs r⟩
theorem Reps.mono (hμ : μ <+: μ') (hH : TExt K H H') : ∀ (ds : List D) (vs : List V), Reps K μ H ds vs → Reps K μ' H' ds vs
  | [], _, h => by simp only [Reps] at h ⊢; exact h
  | d :: ds, _, h => by
    simp only [Reps] at h ⊢
    obtain ⟨w, ws, e, q, r⟩ := h
    exact ⟨w, ws, e, Rep.mono hμ hH d w q, Reps.mono hμ hH ds ws r⟩
end
theorem EnvRel.mono {env : List (Option D)} {σ : L2.St} (hμ : μ <+: μ') (hH : TExt K H H') (h : EnvRel K μ H env σ) : EnvRel K μ' H' env σ :=
  ⟨h.1, fun i d e => let ⟨v, q, r⟩ := h.2 i d e; ⟨v, q, r.mono hμ hH⟩⟩
theorem Reps.length : ∀ {ds : List D} {vs : List V}, Reps K μ H ds vs → ds.length = vs.length
  | [], _, h => by simp only [Reps] at h; subst h; rfl
  | d :: ds, _, h => by
    simp only [Reps] at h
    obtain ⟨w, ws, rfl, _, r⟩ := h
    simp [Reps.length r]
theorem Reps.nil : Reps K μ H [] [] := by simp only [Reps]
theorem Reps.cons {d : D} {v : V} {ds : List D} {vs : List V} (h : Rep K μ H d v) (t : Reps K μ H ds vs) : Reps K μ H (d :: ds) (v :: vs) := by
  simp only [Reps]; exact ⟨v, vs, rfl, h, t⟩
theorem Reps.append : ∀ {ds es : List D} {vs ws : List V}, Reps K μ H ds vs → Reps K μ H es ws → Reps K μ H (ds ++ es) (vs ++ ws)
  | [], _, _, _, h, t => by simp only [Reps] at h; subst h; exact t
  | d :: ds, es, _, ws, h, t => by
    simp only [Reps] at h
    obtain ⟨w, ws', rfl, q, r⟩ := h
    exact Reps.cons q (Reps.append r t)
theorem Reps.get : ∀ {ds : List D} {vs : List V} {i : Nat} {d : D}, Reps K μ H ds vs → ds[i]? = some d → ∃ v, vs[i]? = some v ∧ Rep K μ H d v
  | [], _, _, _, _, e => by simp at e
  | d :: ds, _, i, x, h, e => by
    simp only [Reps] at h
    obtain ⟨w, ws, rfl, q, r⟩ := h
    cases i with
    | zero => simp at e; subst e; exact ⟨w, rfl, q⟩
    | succ i =>
      obtain ⟨v, e1, e2⟩ := Reps.get (i := i) (d := x) r (by simpa using e)
      exact ⟨v, by simpa using e1, e2⟩
theorem Reps.getv : ∀ {ds : List D} {vs : List V} {i : Nat} {v : V}, Reps K μ H ds vs → vs[i]? = some v → ∃ d, ds[i]? = some d ∧ Rep K μ H d v
  | [], _, _, _, h, e => by simp only [Reps] at h; subst h; simp at e
  | d :: ds, _, i, x, h, e => by
    simp only [Reps] at h
    obtain ⟨w, ws, rfl, q, r⟩ := h
    cases i with
    | zero => simp at e; subst e; exact ⟨d, rfl, q⟩
    | succ i =>
      obtain ⟨v, e1, e2⟩ := Reps.getv (i := i) (v := x) r (by simpa using e)
      exact ⟨v, by simpa using e1, e2⟩
theorem Reps.take : ∀ {ds : List D} {vs : List V} (n : Nat), Reps K μ H ds vs → Reps K μ H (ds.take n) (vs.take n)
  | _, _, 0, _ => by simpa using Reps.nil
  | [], _, n + 1, h => by simp only [Reps] at h; subst h; simpa using Reps.nil
  | d :: ds, _, n + 1, h => by
    simp only [Reps] at h
    obtain ⟨w, ws, rfl, q, r⟩ := h
    exact Reps.cons q (Reps.take n r)
theorem Reps.drop : ∀ {ds : List D} {vs : List V} (n : Nat), Reps K μ H ds vs → Reps K μ H (ds.drop n) (vs.drop n)
  | _, _, 0, h => h
  | [], _, n + 1, h => by simp only [Reps] at h; subst h; simpa using Reps.nil
  | d :: ds, _, n + 1, h => by
    simp only [Reps] at h
    obtain ⟨w, ws, rfl, q, r⟩ := h
    exact Reps.drop n r
theorem Reps.set : ∀ {ds : List D} {vs : List V} (n : Nat) {d : D} {v : V}, Reps K μ H ds vs → Rep K μ H d v → Reps K μ H (ds.set n d) (vs.set n v)
  | [], _, n, _, _, h, _ => by simp only [Reps] at h; subst h; simpa using Reps.nil
  | d :: ds, _, 0, _, _, h, x => by
    simp only [Reps] at h
    obtain ⟨w, ws, rfl, q, r⟩ := h
    exact Reps.cons x r
  | d :: ds, _, n + 1, _, _, h, x => by
    simp only [Reps] at h
    obtain ⟨w, ws, rfl, q, r⟩ := h
    exact Reps.cons q (Reps.set n r x)
theorem Reps.reverse : ∀ {ds : List D} {vs : List V}, Reps K μ H ds vs → Reps K μ H ds.reverse vs.reverse
  | [], _, h => by simp only [Reps] at h; subst h; simpa using Reps.nil
  | d :: ds, _, h => by
    simp only [Reps] at h
    obtain ⟨w, ws, rfl, q, r⟩ := h
    rw [List.reverse_cons, List.reverse_cons]
    exact (Reps.reverse r).append (Reps.cons q Reps.nil)
theorem Reps.eraseIdx : ∀ {ds : List D} {vs : List V} (n : Nat), Reps K μ H ds vs → Reps K μ H (ds.eraseIdx n) (vs.eraseIdx n)
  | [], _, n, h => by simp only [Reps] at h; subst h; simpa using Reps.nil
  | d :: ds, _, 0, h => by
    simp only [Reps] at h
    obtain ⟨w, ws, rfl, q, r⟩ := h
    exact r
  | d :: ds, _, n + 1, h => by
    simp only [Reps] at h
    obtain ⟨w, ws, rfl, q, r⟩ := h
    exact Reps.cons q (Reps.eraseIdx n r)
theorem Reps.dropLast {ds : List D} {vs : List V} (h : Reps K μ H ds vs) : Reps K μ H ds.dropLast vs.dropLast := by
  rw [List.dropLast_eq_take, List.dropLast_eq_take, ← h.length]
  exact h.take _
theorem Reps.ints : ∀ {ns : List Int} {vs : List V}, Reps K μ H (ns.map D.int) vs → vs = ns.map V.int
  | [], _, h => by simp only [List.map_nil, Reps] at h; subst h; rfl
  | n :: ns, _, h => by
    simp only [List.map_cons, Reps, Rep] at h
    obtain ⟨w, ws, rfl, rfl, r⟩ := h
    rw [Reps.ints r]; rfl
theorem Reps.bools : ∀ {ns : List Bool} {vs : List V}, Reps K μ H (ns.map D.bl) vs → vs = ns.map V.bl
  | [], _, h => by simp only [List.map_nil, Reps] at h; subst h; rfl
  | n :: ns, _, h => by
    simp only [List.map_cons, Reps, Rep] at h
    obtain ⟨w, ws, rfl, rfl, r⟩ := h
    rw [Reps.bools r]; rfl
theorem Reps.strs : ∀ {ns : List Str} {vs : List V}, Reps K μ H (ns.map D.str) vs → vs = ns.map V.str
  | [], _, h => by simp only [List.map_nil, Reps] at h; subst h; rfl
  | n :: ns, _, h => by
    simp only [List.map_cons, Reps, Rep] at h
    obtain ⟨w, ws, rfl, rfl, r⟩ := h
    rw [Reps.strs r]; rfl
theorem Reps.of_ints : ∀ (ns : List Int), Reps K μ H (ns.map D.int) (ns.map V.int)
  | [] => Reps.nil
  | n :: ns => Reps.cons (by simp only [Rep]) (Reps.of_ints ns)

/-! ### the objects through changes of the heap -/
theorem OOk.mono {a : Addr} : ∀ {o : AObj}, (hμ : μ <+: μ') → (hH : TExt K H H') → (he : o.isRo = false → H' a = H a) → (hf : ∀ ob u, H a = some (.frz ob u) → H' a = some (.frz ob u)) → OOk K μ H a o → OOk K μ' H' a o
  | .lst ds, hμ, hH, he, _, ⟨vs, e, r⟩ => ⟨vs, (he rfl).trans e, r.mono hμ hH⟩
  | .ro ds, hμ, hH, he, hf, ⟨vs, e, r⟩ => ⟨vs, e.elim (fun ⟨o, q⟩ => .inl ⟨o, hf _ _ q⟩) .inr, r.mono hμ hH⟩
  | .dK ds, hμ, hH, he, _, ⟨vs, e, k, r⟩ => ⟨vs, (he rfl).trans e, k, r.mono hμ hH⟩
  | .dT ds, hμ, hH, he, _, ⟨vs, e, k, r⟩ => ⟨vs, (he rfl).trans e, k, r.mono hμ hH⟩
  | .ins C ds, hμ, hH, he, _, ⟨dx, vs, e, k, r⟩ => ⟨dx, vs, (he rfl).trans e, k, r.mono hμ hH⟩
theorem OOk.there {a : Addr} : ∀ {o : AObj}, OOk K μ H a o → o.isRo = false → Mut (H a)
  | .lst ds, ⟨vs, e, _⟩, _ => by rw [e]; trivial
  | .ro ds, _, h => by cases h
  | .dK ds, ⟨vs, e, _⟩, _ => by rw [e]; trivial
  | .dT ds, ⟨vs, e, _⟩, _ => by rw [e]; trivial
  | .ins C ds, ⟨dx, vs, e, _⟩, _ => by rw [e]; trivial
theorem Sim.at {ah : AH} (S : Sim K μ H ah) {n : Nat} {o : AObj} (e : ah[n]? = some o) : ∃ a, μ[n]? = some a ∧ OOk K μ H a o := by
  have hn : n < μ.length := by rw [S.len]; exact (List.getElem?_eq_some_iff.mp e).1
  exact ⟨μ[n], by simp [hn], S.ok n _ o (by simp [hn]) e⟩
/-- a heap that bears all of ours alike -/
theorem Sim.frame {ah : AH} (S : Sim K μ H ah) (hH : TExt K H H') (he : ∀ a, Mut (H a) → H' a = H a) (hf : ∀ a ob u, H a = some (.frz ob u) → H' a = some (.frz ob u)) : Sim K μ H' ah :=
  ⟨S.len, S.nd, fun n a o e1 e2 => (S.ok n a o e1 e2).mono (List.prefix_refl _) hH (fun q => he a ((S.ok n a o e1 e2).there q)) (hf a), S.pos, S.ro0⟩
/-- all but the script: something that may change -/
theorem Sim.mut {ah : AH} (S : Sim K μ H ah) {a : Addr} (h : a ∈ μ.tail) : Mut (H a) := by
  obtain ⟨i, e⟩ := List.mem_iff_getElem?.mp h
  rw [List.getElem?_tail] at e
  have hn : i + 1 < ah.length := by rw [← S.len]; exact (List.getElem?_eq_some_iff.mp e).1
  have e2 : ah[i + 1]? = some ah[i + 1] := List.getElem?_eq_getElem hn
  refine (S.ok _ a _ e e2).there ?_
  have := S.ro0 _ _ e2
  cases q : ah[i + 1].isRo with
  | false => rfl
  | true => exact absurd (this.mp q) (by omega)
theorem Sim.free {ah : AH} (S : Sim K μ H ah) {p : Addr} (h : H p = none) : p ∉ μ.tail := fun z => by
  have := S.mut z
  rw [h] at this; exact this
/-- something new that is not ours -/
theorem Sim.other {ah : AH} (S : Sim K μ H ah) {p : Addr} {u : HO} (hp : H p = none) : Sim K μ (upd H p u) ah :=
  S.frame (TExt.new hp) (fun a h => upd_ne (fun z => by subst z; rw [hp] at h; exact h)) fun a ob v q => by rw [upd_ne (ne_of_none q hp)]; exact q
/-- a new object of ours -/
theorem Sim.new {ah : AH} (S : Sim K μ H ah) {p : Addr} {u : HO} {o : AObj} (hp : H p = none) (hr : o.isRo = false) (h : OOk K (μ ++ [p]) (upd H p u) p o) : Sim K (μ ++ [p]) (upd H p u) (ah ++ [o]) := by
  have key : ∀ (n : Nat) (a : Addr) (q : AObj), (μ ++ [p])[n]? = some a → (ah ++ [o])[n]? = some q → (μ[n]? = some a ∧ ah[n]? = some q) ∨ (n = ah.length ∧ a = p ∧ q = o) := fun n a q e1 e2 => by
    by_cases hn : n < ah.length
    · rw [List.getElem?_append_left (by rw [S.len]; exact hn)] at e1
      rw [List.getElem?_append_left hn] at e2
      exact .inl ⟨e1, e2⟩
    · have hn' : n < (ah ++ [o]).length := (List.getElem?_eq_some_iff.mp e2).1
      have : n = ah.length := by simp at hn'; omega
      subst this
      rw [List.getElem?_append_right (by rw [S.len]; omega)] at e1
      rw [List.getElem?_append_right (Nat.le_refl _)] at e2
      rw [S.len] at e1
      simp at e1 e2
      exact .inr ⟨rfl, e1.symm, e2.symm⟩
  refine ⟨by simp [S.len], fun n m a q q' e1 e2 e3 e4 r1 r2 => ?_, fun n a q e1 e2 => ?_, by simp, fun n q e => ?_⟩
  · rcases key n a q e1 e3 with ⟨x1, x2⟩ | ⟨x1, x2, x3⟩
    · rcases key m a q' e2 e4 with ⟨y1, y2⟩ | ⟨y1, y2, y3⟩
      · exact S.nd n m a q q' x1 y1 x2 y2 r1 r2
      · have := (S.ok n a q x1 x2).there r1
        rw [y2, hp] at this; exact this.elim
    · rcases key m a q' e2 e4 with ⟨y1, y2⟩ | ⟨y1, y2, y3⟩
      · have := (S.ok m a q' y1 y2).there r2
        rw [x2, hp] at this; exact this.elim
      · rw [x1, y1]
  · rcases key n a q e1 e2 with ⟨x1, x2⟩ | ⟨x1, x2, x3⟩
    · exact (S.ok n a q x1 x2).mono (List.prefix_append _ _) (TExt.new hp) (fun z => upd_ne (fun w => by
        have := (S.ok n a q x1 x2).there z
        rw [w, hp] at this; exact this)) fun ob v z => by rw [upd_ne (ne_of_none z hp)]; exact z
    · rw [x2, x3]; exact h
  · by_cases hn : n < ah.length
    · rw [List.getElem?_append_left hn] at e
      exact S.ro0 n q e
    · have hn' : n < (ah ++ [o]).length := (List.getElem?_eq_some_iff.mp e).1
      have : n = ah.length := by simp at hn'; omega
      subst this
      rw [List.getElem?_append_right (Nat.le_refl _)] at e
      simp at e
      subst e
      have := S.pos
      constructor
      · intro z; rw [hr] at z; cases z
      · intro z; omega
/-- an object of ours changed -/
theorem Sim.put {ah : AH} (S : Sim K μ H ah) {n : Nat} {a : Addr} {u : HO} {o o' : AObj} (e1 : μ[n]? = some a) (e2 : ah[n]? = some o) (hr : o.isRo = false) (hr' : o'.isRo = false) (h : TExt K H (upd H a u) → OOk K μ (upd H a u) a o') : Sim K μ (upd H a u) (ah.set n o') := by
  have mu := (S.ok n a o e1 e2).there hr
  have ht : TExt K H (upd H a u) := TExt.mut mu
  have hn : n < ah.length := (List.getElem?_eq_some_iff.mp e2).1
  have old : ∀ (m : Nat) (q : AObj), (ah.set n o')[m]? = some q → m ≠ n → ah[m]? = some q := fun m q e z => by
    rw [List.getElem?_set_ne (Ne.symm z)] at e; exact e
  have self : ∀ q, (ah.set n o')[n]? = some q → q = o' := fun q e => by
    rw [List.getElem?_set_self hn] at e; exact (Option.some.inj e).symm
  refine ⟨by simp [S.len], fun m k b q q' x1 x2 x3 x4 r1 r2 => ?_, fun m b q x1 x2 => ?_, by rw [List.length_set]; exact S.pos, fun m q x => ?_⟩
  · by_cases hm : m = n
    · by_cases hk : k = n
      · rw [hm, hk]
      · subst hm
        rw [e1] at x1; cases x1
        exact S.nd m k a o q' e1 x2 e2 (old k q' x4 hk) hr r2
    · by_cases hk : k = n
      · subst hk
        rw [e1] at x2; cases x2
        exact S.nd m k a q o x1 e1 (old m q x3 hm) e2 r1 hr
      · exact S.nd m k b q q' x1 x2 (old m q x3 hm) (old k q' x4 hk) r1 r2
  · by_cases hm : m = n
    · subst hm
      rw [self q x2]
      rw [e1] at x1; cases x1
      exact h ht
    · have y := old m q x2 hm
      refine (S.ok m b q x1 y).mono (List.prefix_refl _) ht (fun z => upd_ne fun w => ?_) fun ob v z => ?_
      · subst w
        exact hm (S.nd m n b q o x1 e1 y e2 z hr)
      · rw [upd_ne fun w => by subst w; rw [z] at mu; exact mu]; exact z
  · by_cases hm : m = n
    · subst hm
      rw [self q x, ← S.ro0 _ _ e2, hr, hr']
    · exact S.ro0 m q (old m q x hm)
end HA

/-! HA2: results, what is wanted of them, the judgements, composition. -/
namespace HA
open PySem PySem.Spec PyProof.Rows L2

inductive Res (α : Type) where
  | ok (a : α) (h : AH)
  | exn (c : Addr) (fs : Option (List (Str × D))) (h : AH)
  | stuck
def Res.bind {α β : Type} (r : Res α) (f : α → AH → Res β) : Res β := match r with
  | .ok a h => f a h
  | .exn c fs h => .exn c fs h
  | .stuck => .stuck
@[simp] theorem Res.bind_ok {α β : Type} (a : α) (h : AH) (f : α → AH → Res β) : (Res.ok a h).bind f = f a h := rfl
@[simp] theorem Res.bind_exn {α β : Type} (c : Addr) (fs : Option (List (Str × D))) (h : AH) (f : α → AH → Res β) : (Res.exn c fs h : Res α).bind f = .exn c fs h := rfl
@[simp] theorem Res.bind_stuck {α β : Type} (f : α → AH → Res β) : (Res.stuck : Res α).bind f = .stuck := rfl
theorem Res.bind_assoc {α β γ : Type} (r : Res α) (f : α → AH → Res β) (g : β → AH → Res γ) : (r.bind f).bind g = r.bind fun a h => (f a h).bind g := by cases r <;> rfl
abbrev Env := List (Option D)
abbrev EM (α : Type) := Env → AH → Res α

/-- from (μ, H) on: ours first, tuples stay, what is no object of ours stays -/
structure Ext (K : PySem.W.Frag) (μ : List Addr) (H : Hp) (μ' : List Addr) (H' : Hp) : Prop where
  pre : μ <+: μ'
  tup : TExt K H H'
  new : ∀ a, a ∈ μ'.tail → a ∈ μ.tail ∨ H a = none
  keep : ∀ a o, a ∉ μ.tail → H a = some o → H' a = some o
  there : ∀ a, H' a = none → H a = none
section
variable {K : PySem.W.Frag} {μ μ1 μ2 : List Addr} {H H1 H2 : Hp}
theorem Ext.refl : Ext K μ H μ H := ⟨List.prefix_refl _, TExt.refl, fun _ h => .inl h, fun _ _ _ e => e, fun _ h => h⟩
theorem there_upd {p : Addr} {u : HO} : ∀ a, upd H p u a = none → H a = none := fun a h => by
  by_cases z : a = p
  · subst z; rw [upd_same] at h; cases h
  · rw [upd_ne z] at h; exact h
theorem Ext.trans (a : Ext K μ H μ1 H1) (b : Ext K μ1 H1 μ2 H2) : Ext K μ H μ2 H2 where
  pre := a.pre.trans b.pre
  there := fun x h => a.there x (b.there x h)
  tup := a.tup.trans b.tup
  new := fun x hx => by
    rcases b.new x hx with h | h
    · exact a.new x h
    · by_cases hm : x ∈ μ.tail
      · exact .inl hm
      · cases e : H x with
        | none => exact .inr rfl
        | some o => rw [a.keep x o hm e] at h; cases h
  keep := fun x o hm e => b.keep x o (fun z => by
    rcases a.new x z with h | h
    · exact hm h
    · rw [e] at h; cases h) (a.keep x o hm e)
theorem Ext.other {p : Addr} {u : HO} (hp : H p = none) : Ext K μ H μ (upd H p u) :=
  ⟨List.prefix_refl _, TExt.new hp, fun _ h => .inl h, fun a o _ e => by rw [upd_ne (ne_of_none e hp)]; exact e, there_upd⟩
theorem Ext.ours {p : Addr} {u : HO} (hp : H p = none) (h0 : 0 < μ.length) : Ext K μ H (μ ++ [p]) (upd H p u) :=
  ⟨List.prefix_append _ _, TExt.new hp, fun a h => by
    rw [List.tail_append_of_ne_nil (by intro z; rw [z] at h0; exact absurd h0 (by decide))] at h
    exact (List.mem_append.mp h).elim .inl fun z => .inr (by simp at z; rw [z]; exact hp), fun a o _ e => by rw [upd_ne (ne_of_none e hp)]; exact e, there_upd⟩
theorem Ext.put {p : Addr} {u : HO} {n : Nat} (e : μ[n]? = some p) (hn : n ≠ 0) (mu : Mut (H p)) : Ext K μ H μ (upd H p u) :=
  ⟨List.prefix_refl _, TExt.mut mu, fun _ h => .inl h, fun a o hm e' => by
    rw [upd_ne (fun z => hm (by
      rw [z]
      obtain ⟨k, rfl⟩ : ∃ k, n = k + 1 := ⟨n - 1, by omega⟩
      exact List.mem_of_getElem? (by rw [List.getElem?_tail]; exact e)))]
    exact e', there_upd⟩
theorem Rep.ext {d : D} {v : V} (h : Rep K μ H d v) (e : Ext K μ H μ1 H1) : Rep K μ1 H1 d v := Rep.mono e.pre e.tup d v h
theorem Reps.ext {d : List D} {v : List V} (h : Reps K μ H d v) (e : Ext K μ H μ1 H1) : Reps K μ1 H1 d v := Reps.mono e.pre e.tup d v h
theorem EnvRel.ext {env : Env} {σ : L2.St} (h : EnvRel K μ H env σ) (e : Ext K μ H μ1 H1) : EnvRel K μ1 H1 env σ := h.mono e.pre e.tup
end

/-- how an exception lies -/
def ExnOk (K : PySem.W.Frag) (μ : List Addr) (H : Hp) : Option (List (Str × D)) → Option Addr → Prop
  | none, od => od = none
  | some fs, od => ∃ d fws, od = some d ∧ H d = some (.xd fws) ∧ fs.map (·.1) = fws.map (·.1) ∧ Reps K μ H (fs.map (·.2)) (fws.map (·.2))
/-- how an answer lies: H₀ the heap at the beginning -/
structure Rel (β γ : Type) where
  r : Hp → List Addr → Hp → β → γ → Prop
  back : ∀ {H₀ H₁ : Hp} {μ : List Addr} {H : Hp} {b : β} {c : γ}, (∀ a, H₁ a = none → H₀ a = none) → r H₁ μ H b c → r H₀ μ H b c
def Post {β γ : Type} (K : PySem.W.Frag) (R : Rel β γ) (W : Value → Option Addr → Hp → Prop) (μ : List Addr) (H : Hp) (Q : γ → Hp → Prop) : Res β → Prop
  | .ok d ah' => ∀ μ' x H', Ext K μ H μ' H' → Sim K μ' H' ah' → R.r H μ' H' d x → Q x H'
  | .exn c fs ah' => ∀ μ' H' od, Ext K μ H μ' H' → Sim K μ' H' ah' → ExnOk K μ' H' fs od → W (.ref c) od H'
  | .stuck => False
section
variable {K : PySem.W.Frag} {μ μ1 : List Addr} {H H1 : Hp} {β γ β' γ' : Type} {R : Rel β γ} {R' : Rel β' γ'} {W : Value → Option Addr → Hp → Prop}
theorem Post.ext {Q : γ → Hp → Prop} {r : Res β} (e : Ext K μ H μ1 H1) (h : Post K R W μ H Q r) : Post K R W μ1 H1 Q r := by
  cases r with
  | ok d ah => exact fun μ' x H' e' s r => h μ' x H' (e.trans e') s (R.back e.there r)
  | exn c fs ah => exact fun μ' H' od e' => h μ' H' od (e.trans e')
  | stuck => exact h
/-- THE COMPOSITION -/
theorem Post.bind {Q : γ' → Hp → Prop} {P : γ → Hp → Prop} {r : Res β} {f : β → AH → Res β'} (h : Post K R' W μ H Q (r.bind f))
    (k : ∀ d ah1 μ1 x H1, Ext K μ H μ1 H1 → Sim K μ1 H1 ah1 → R.r H μ1 H1 d x → Post K R' W μ1 H1 Q (f d ah1) → P x H1) : Post K R W μ H P r := by
  cases r with
  | ok d ah => exact fun μ' x H' e' s' r' => k d ah μ' x H' e' s' r' (Post.ext e' h)
  | exn c fs ah => exact h
  | stuck => exact h
/-- .. the beginning as it was -/
theorem Post.bind0 {Q : γ' → Hp → Prop} {P : γ → Hp → Prop} {r : Res β} {f : β → AH → Res β'} (h : Post K R' W μ H Q (r.bind f))
    (k : ∀ d ah1 μ1 x H1, Ext K μ H μ1 H1 → Sim K μ1 H1 ah1 → R.r H μ1 H1 d x → Post K R' W μ H Q (f d ah1) → P x H1) : Post K R W μ H P r := by
  cases r with
  | ok d ah => exact fun μ' x H' e' s' r' => k d ah μ' x H' e' s' r' h
  | exn c fs ah => exact h
  | stuck => exact h
theorem Post.mono {Q Q' : γ → Hp → Prop} {r : Res β} (h : Post K R W μ H Q r) (k : ∀ x H', Q x H' → Q' x H') : Post K R W μ H Q' r := by
  cases r with
  | ok d ah => exact fun μ' x H' e' s' r' => k x H' (h μ' x H' e' s' r')
  | exn c fs ah => exact h
  | stuck => exact h
end

def RD (K : PySem.W.Frag) : Rel D V := ⟨fun _ μ H d v => Rep K μ H d v, fun _ h => h⟩
def RB : Rel Bool Bool := ⟨fun _ _ _ b c => b = c, fun _ h => h⟩
/-- a new list, no object of ours, by its items -/
def RL (K : PySem.W.Frag) : Rel (List D) V := ⟨fun H₀ μ H ds v => ∃ a vs, v = .ref a ∧ H₀ a = none ∧ H a = some (.lst vs) ∧ a ∉ μ.tail ∧ Reps K μ H ds vs, fun h ⟨a, vs, e, z, r⟩ => ⟨a, vs, e, h a z, r⟩⟩
/-- a list or tuple that is read, by its items -/
def RQ (K : PySem.W.Frag) : Rel (List D) V := ⟨fun _ μ H ds v => ∃ a vs, v = .ref a ∧ (SqL K H a vs ∨ SqT K H a vs) ∧ Reps K μ H ds vs, fun _ h => h⟩
def RA (K : PySem.W.Frag) : Rel (List D) (List V) := ⟨fun _ μ H ds vs => Reps K μ H ds vs, fun _ h => h⟩

def tG {β γ : Type} (K : PySem.W.Frag) (R : Rel β γ) (W : WX) (m : EM β) : L2.St → Hp → (γ → Hp → Prop) → Prop := fun σ H Q =>
  ∃ (μ : List Addr) (env : Env) (ah : AH), EnvRel K μ H env σ ∧ Sim K μ H ah ∧ Post K R (fun c d H' => W c d σ H') μ H Q (m env ah)
theorem tG_next {K : PySem.W.Frag} {β γ : Type} {R : Rel β γ} {W : WX} {σ : L2.St} {μ μ1 : List Addr} {env : Env} {H H1 : Hp} {ah1 : AH} {m : EM β} {Q : γ → Hp → Prop} (he : EnvRel K μ H env σ) (e : Ext K μ H μ1 H1) (hs : Sim K μ1 H1 ah1)
    (hp : Post K R (fun c d H' => W c d σ H') μ1 H1 Q (m env ah1)) : tG K R W m σ H1 Q := ⟨μ1, env, ah1, he.ext e, hs, hp⟩

theorem PE.weak {X : Cx} {e : Expr} {t t' : TE} (h : PE X e t) (k : ∀ σ H Q, t' σ H Q → t σ H Q) : PE X e t' := ⟨fun pins s σ H Q I q => h.run pins s σ H Q I (k σ H Q q)⟩
theorem PT.weak {X : Cx} {e : Expr} {t t' : TT} (h : PT X e t) (k : ∀ σ H Q, t' σ H Q → t σ H Q) : PT X e t' := ⟨fun pins s σ H Q I q => h.run pins s σ H Q I (k σ H Q q)⟩
theorem PW.weak {X : Cx} {e : Expr} {t t' : TT} (h : PW X e t) (k : ∀ σ H Q, t' σ H Q → t σ H Q) : PW X e t' := ⟨fun wh pins s σ H Q I q => h.run wh pins s σ H Q I (k σ H Q q)⟩
theorem PA.weak {X : Cx} {e : List Expr} {t t' : TA} (h : PA X e t) (k : ∀ σ H Q, t' σ H Q → t σ H Q) : PA X e t' := ⟨fun p pins s σ H Q I q => h.run p pins s σ H Q I (k σ H Q q)⟩

/-- the judgements: a value, a new list by its items, a sequence by its items, a test, arguments -/
def PD (X : Cx) (W : WX) (e : Expr) (m : EM D) : Prop := PE X e (tG X.K (RD X.K) W m)
def PL (X : Cx) (W : WX) (e : Expr) (m : EM (List D)) : Prop := PE X e (tG X.K (RL X.K) W m)
def PQ (X : Cx) (W : WX) (e : Expr) (m : EM (List D)) : Prop := PE X e (tG X.K (RQ X.K) W m)
def PB (X : Cx) (W : WX) (e : Expr) (m : EM Bool) : Prop := PT X e (tG X.K RB W m)
def PBw (X : Cx) (W : WX) (e : Expr) (m : EM Bool) : Prop := PW X e (tG X.K RB W m)
def PAs (X : Cx) (W : WX) (es : List Expr) (m : EM (List D)) : Prop := PA X es (tG X.K (RA X.K) W m)

/-! ### names, constants -/
def eVar (i : Nat) : EM D := fun env ah => match env[i]? with
  | some (some d) => .ok d ah
  | _ => .stuck
def eC (d : D) : EM D := fun _ ah => .ok d ah
section
variable {X : Cx} {W : WX}
theorem post_var {K : PySem.W.Frag} {β γ : Type} {R : Rel β γ} {W : Value → Option Addr → Hp → Prop} {μ : List Addr} {H : Hp} {d : β} {x : γ} {ah : AH} {Q : γ → Hp → Prop} (h : Post K R W μ H Q (.ok d ah)) (S : Sim K μ H ah) (r : R.r H μ H d x) : Q x H := h μ x H Ext.refl S r
theorem pd_var (i : Nat) {x : Str} {pos : Pos} (hN : X.N[i]? = some x := by rfl) (hv : Vis X.env.scope x := by first | exact Or.inl rfl | exact Or.inr (Or.inl rfl) | exact Or.inr (Or.inr rfl)) (hd : (x == ("__debug__" : Str)) = false := by decide)
    (hcd : (x == ("__classdict__" : Str)) = false := by decide) : PD X W (.Name x pos) (eVar i) := by
  refine PE.weak (pe_var (i := i) hN hv hd hcd) fun σ H Q ⟨μ, env, ah, he, hs, hp⟩ => ?_
  unfold eVar at hp
  split at hp
  · rename_i d e
    obtain ⟨v, e', r⟩ := he.2 i d e
    exact ⟨v, e', post_var hp hs r⟩
  · exact hp.elim
theorem pd_c {e : Expr} {v : V} {d : D} (h : PE X e (tC v)) (hr : ∀ μ H, Rep X.K μ H d v) : PD X W e (eC d) :=
  PE.weak h fun σ H Q ⟨μ, env, ah, he, hs, hp⟩ => post_var (x := v) hp hs (hr μ H)
theorem pd_int {i : Int} {j pos} : PD X W (.Constant (.int i) j pos) (eC (.int i)) := pd_c pe_int fun _ _ => by simp only [Rep]
theorem pd_bl {b : Bool} {j pos} : PD X W (.Constant (.bool b) j pos) (eC (.bl b)) := pd_c pe_bl fun _ _ => by simp only [Rep]
theorem pd_non {j pos} : PD X W (.Constant .none j pos) (eC .non) := pd_c pe_non fun _ _ => by simp only [Rep]
theorem pd_str {x j pos} : PD X W (.Constant (.str x) j pos) (eC (.str x)) := pd_c pe_str fun _ _ => by simp only [Rep]
/-- a constant of the module: hr is of mg's value -/
theorem pd_glob {x : Str} {v : V} {u : Value} {d : D} {pos : Pos} (hg : Gl X x) (hm : X.mg x = some u) (r : RelV v u) (hr : ∀ μ H, Rep X.K μ H d v) (hd : (x == ("__debug__" : Str)) = false := by decide) : PD X W (.Name x pos) (eC d) :=
  pd_c (pe_glob hg hm r hd) hr

/-! ### operators -/
def e2 {α β γ : Type} (ma : EM α) (mb : EM β) (f : α → β → AH → Res γ) : EM γ := fun env ah => (ma env ah).bind fun x ah1 => (mb env ah1).bind fun y ah2 => f x y ah2
def e1 {α γ : Type} (ma : EM α) (f : α → AH → Res γ) : EM γ := fun env ah => (ma env ah).bind fun x ah1 => f x ah1
/-- an operator's rule, by data -/
def rO {γ : Type} {R : Rel γ V} (K : PySem.W.Frag) (W : Value → Option Addr → Hp → Prop) (f : D → D → AH → Res γ) : R2 := fun x y H Q => ∃ μ ah dx dy, Sim K μ H ah ∧ Rep K μ H dx x ∧ Rep K μ H dy y ∧ Post K R W μ H Q (f dx dy ah)
def OpD {γ : Type} (X : Cx) (R : Rel γ V) (F : Value → Value → Sem Value) (f : D → D → AH → Res γ) : Prop := ∀ W, OpR X F (rO (R := R) X.K W f)
theorem op2 {γ : Type} {R : Rel γ V} {K : PySem.W.Frag} {ma mb : EM D} {f : D → D → AH → Res γ} {σ : L2.St} {H : Hp} {Q : VK} (h : tG K R W (e2 ma mb f) σ H Q) :
    tOp (rO (R := R) K (fun c d H' => W c d σ H') f) (tG K (RD K) W ma) (tG K (RD K) W mb) σ H Q := by
  obtain ⟨μ, env, ah, he, hs, hp⟩ := h
  refine ⟨μ, env, ah, he, hs, hp.bind fun dx ah1 μ1 x H1 e1 s1 r1 p1 => ?_⟩
  refine tG_next he e1 s1 (p1.bind fun dy ah2 μ2 y H2 e2 s2 r2 p2 => ?_)
  exact ⟨μ2, ah2, dx, dy, s2, Rep.ext r1 e2, r2, p2⟩
theorem pe_opσ {op : Operator} {r : L2.St → R2} {a b : Expr} {ta tb : TE} {pos : Pos} (ho : ∀ σ, OpR X (binaryOp op) (r σ)) (ha : PE X a ta) (hb : PE X b tb) : PE X (.BinOp a op b pos) (fun σ H Q => tOp (r σ) ta tb σ H Q) :=
  ⟨fun pins s σ H Q I h => (pe_op (ho σ) ha hb).run pins s σ H Q I h⟩
theorem pd_op {op : Operator} {a b : Expr} {ma mb : EM D} {f : D → D → AH → Res D} {pos : Pos} (ho : OpD X (RD X.K) (binaryOp op) f) (ha : PD X W a ma) (hb : PD X W b mb) : PD X W (.BinOp a op b pos) (e2 ma mb f) :=
  PE.weak (pe_opσ (r := fun σ => rO (R := RD X.K) X.K (fun c d H' => W c d σ H') f) (fun σ => ho _) ha hb) fun _ _ _ h => op2 h
theorem pe_cmpσ {op : CmpOp} {r : L2.St → R2} {a b : Expr} {ta tb : TE} {pos : Pos} (ho : ∀ σ, OpR X (compareOp op) (r σ)) (ha : PE X a ta) (hb : PE X b tb) (hm : behindInMarks op b = false) : PE X (.Compare a [op] [b] pos) (fun σ H Q => tOp (r σ) ta tb σ H Q) :=
  ⟨fun pins s σ H Q I h => (pe_cmpR (ho σ) ha hb hm).run pins s σ H Q I h⟩
theorem pt_cmpσ {op : CmpOp} {r : L2.St → R2} {a b : Expr} {ta tb : TE} {pos : Pos} (ho : ∀ σ, OpR X (compareOp op) (r σ)) (ha : PE X a ta) (hb : PE X b tb) (hm : behindInMarks op b = false) : PT X (.Compare a [op] [b] pos) (fun σ H Q => tTest (tOp (r σ) ta tb) σ H Q) :=
  ⟨fun pins s σ H Q I h => (pt_cmpR (ho σ) ha hb hm).run pins s σ H Q I h⟩
/-- a comparison's answer is a truth -/
def RBV : Rel Bool V := ⟨fun _ _ _ b v => v = .bl b, fun _ h => h⟩
theorem Post.bv {K : PySem.W.Frag} {Wx : Value → Option Addr → Hp → Prop} {μ : List Addr} {H : Hp} {Q : VK} {r : Res Bool} (h : Post K (RD K) Wx μ H Q (r.bind fun b ah => .ok (.bl b) ah)) : Post K RBV Wx μ H Q r := by
  cases r with
  | ok b ah => exact fun μ' x H' e s r => h μ' x H' e s (by have : x = .bl b := r; subst this; simp only [RD, Rep])
  | exn c fs ah => exact h
  | stuck => exact h
theorem Post.bb {K : PySem.W.Frag} {Wx : Value → Option Addr → Hp → Prop} {μ : List Addr} {H : Hp} {Q : Bool → Hp → Prop} {r : Res Bool} (h : Post K RB Wx μ H Q r) : Post K RBV Wx μ H (fun x H' => ∃ k, x = .bl k ∧ Q k H') r := by
  cases r with
  | ok b ah => exact fun μ' x H' e s r => ⟨b, r, h μ' b H' e s rfl⟩
  | exn c fs ah => exact h
  | stuck => exact h
def eB (m : EM Bool) : EM D := fun env ah => (m env ah).bind fun b ah => .ok (.bl b) ah
theorem op2b {K : PySem.W.Frag} {ma mb : EM D} {f : D → D → AH → Res Bool} {σ : L2.St} {H : Hp} {Q : VK} (h : tG K (RD K) W (eB (e2 ma mb f)) σ H Q) :
    tOp (rO (R := RBV) K (fun c d H' => W c d σ H') f) (tG K (RD K) W ma) (tG K (RD K) W mb) σ H Q := by
  obtain ⟨μ, env, ah, he, hs, hp⟩ := h
  exact op2 ⟨μ, env, ah, he, hs, Post.bv hp⟩
theorem pd_cmp {op : CmpOp} {a b : Expr} {ma mb : EM D} {f : D → D → AH → Res Bool} {pos : Pos} (ho : OpD X RBV (compareOp op) f) (ha : PD X W a ma) (hb : PD X W b mb) (hm : behindInMarks op b = false := by first | exact nomark _ | rfl) : PD X W (.Compare a [op] [b] pos) (eB (e2 ma mb f)) :=
  PE.weak (pe_cmpσ (r := fun σ => rO (R := RBV) X.K (fun c d H' => W c d σ H') f) (fun σ => ho _) ha hb hm) fun _ _ _ h => op2b h
theorem pb_cmp {op : CmpOp} {a b : Expr} {ma mb : EM D} {f : D → D → AH → Res Bool} {pos : Pos} (ho : OpD X RBV (compareOp op) f) (ha : PD X W a ma) (hb : PD X W b mb) (hm : behindInMarks op b = false := by first | exact nomark _ | rfl) : PB X W (.Compare a [op] [b] pos) (e2 ma mb f) := by
  refine PT.weak (pt_cmpσ (r := fun σ => rO (R := RBV) X.K (fun c d H' => W c d σ H') f) (fun σ => ho _) ha hb hm) fun σ H Q ⟨μ, env, ah, he, hs, hp⟩ => ?_
  exact op2 ⟨μ, env, ah, he, hs, Post.bb hp⟩
end
end HA

/-! HA3: operators and comparisons of data. -/
namespace HA
open PySem PySem.Spec PyProof.Rows L2

def line : Nat := 16777216
theorem line_le {n : Nat} (h : n ≤ line) : n ≤ sizeLine := by rw [sizeLine_eq]; exact h
/-- the items of a list object -/
def listAt (ah : AH) (n : Nat) : Option (List D) := match ah[n]? with
  | some (.lst ds) => some ds
  | some (.ro ds) => some ds
  | _ => none
section
variable {K : PySem.W.Frag} {μ : List Addr} {H : Hp}
theorem Sim.list {ah : AH} (S : Sim K μ H ah) {n : Nat} {ds : List D} (e : listAt ah n = some ds) : ∃ a vs, μ[n]? = some a ∧ SqL K H a vs ∧ Reps K μ H ds vs := by
  unfold listAt at e
  split at e
  · rename_i xs q
    cases e
    obtain ⟨a, e1, vs, e2, r⟩ := S.at q
    exact ⟨a, vs, e1, SqL.of e2, r⟩
  · rename_i xs q
    cases e
    obtain ⟨a, e1, vs, e2, r⟩ := S.at q
    refine ⟨a, vs, e1, ?_, r⟩
    rcases e2 with ⟨o, e2⟩ | e2
    · exact .inl (.inr ⟨o, e2⟩)
    · exact .inr e2
  · cases e
end

/-! ### arithmetic -/
def mulOk (i j : Int) : Bool := decide (i.natAbs.log2 + j.natAbs.log2 < 1000000)
def dI (b : Bool) : Int := if b = true then 1 else 0
def oAdd : D → D → AH → Res D
  | .int i, .int j, ah => .ok (.int (i + j)) ah
  | .str x, .str y, ah => if x.length + y.length ≤ line then .ok (.str (x ++ y)) ah else .stuck
  | .tup xs, .tup ys, ah => if xs.length + ys.length ≤ line then .ok (.tup (xs ++ ys)) ah else .stuck
  | .int i, .bl b, ah => .ok (.int (i + dI b)) ah
  | .bl b, .int j, ah => .ok (.int (dI b + j)) ah
  | .bl a, .bl b, ah => .ok (.int (dI a + dI b)) ah
  | _, _, _ => .stuck
def oSub : D → D → AH → Res D
  | .int i, .int j, ah => .ok (.int (i - j)) ah
  | .int i, .bl b, ah => .ok (.int (i - dI b)) ah
  | .bl b, .int j, ah => .ok (.int (dI b - j)) ah
  | .bl a, .bl b, ah => .ok (.int (dI a - dI b)) ah
  | _, _, _ => .stuck
def oMul : D → D → AH → Res D
  | .int i, .int j, ah => if mulOk i j = true then .ok (.int (i * j)) ah else .stuck
  | .tup xs, .int k, ah => if xs ≠ [] ∧ 2 ≤ k ∧ k ≤ 1000 ∧ xs.length ≤ 1000 then .ok (.tup (List.replicate k.toNat xs).flatten) ah else .stuck
  | _, _, _ => .stuck
def oFdiv : D → D → AH → Res D
  | .int i, .int j, ah => if 0 < j ∧ j.natAbs.log2 < 9000 then .ok (.int (i / j)) ah else .stuck
  | _, _, _ => .stuck
def oMod : D → D → AH → Res D
  | .int i, .int j, ah => if 0 < j then .ok (.int (i % j)) ah else .stuck
  | _, _, _ => .stuck
def oPow : D → D → AH → Res D
  | .int i, .int j, ah => if 0 ≤ j ∧ j ≤ 1000000 ∧ i.natAbs < 2 ^ 64 then .ok (.int (i ^ j.toNat)) ah else .stuck
  | _, _, _ => .stuck
section
variable {X : Cx} {W : WX}
/-- an operator's data rule from one of its alternatives -/
theorem Post.ok1 {β γ : Type} {K : PySem.W.Frag} {R : Rel β γ} {Wx : Value → Option Addr → Hp → Prop} {μ : List Addr} {H : Hp} {Q : γ → Hp → Prop} {d : β} {ah : AH} (h : Post K R Wx μ H Q (.ok d ah)) {x : γ} (S : Sim K μ H ah) (r : R.r H μ H d x) : Q x H := h μ x H Ext.refl S r
theorem Post.newT {K : PySem.W.Frag} {Wx : Value → Option Addr → Hp → Prop} {μ : List Addr} {H : Hp} {Q : VK} {ds : List D} {ah : AH} (h : Post K (RD K) Wx μ H Q (.ok (.tup ds) ah)) {vs : List V} (S : Sim K μ H ah) (r : Reps K μ H ds vs) {p : Addr} (hp : H p = none) : Q (.ref p) (upd H p (.tup vs)) :=
  h μ _ _ (Ext.other hp) (S.other hp) (by
    show Rep _ _ _ (.tup ds) _
    simp only [Rep]
    exact ⟨p, vs, rfl, SqT.of upd_same, r.ext (Ext.other hp)⟩)
theorem Post.newL {K : PySem.W.Frag} {Wx : Value → Option Addr → Hp → Prop} {μ : List Addr} {H : Hp} {Q : VK} {ds : List D} {ah : AH} (h : Post K (RL K) Wx μ H Q (.ok ds ah)) {vs : List V} (S : Sim K μ H ah) (r : Reps K μ H ds vs) {p : Addr} (hp : H p = none) : Q (.ref p) (upd H p (.lst vs)) :=
  h μ _ _ (Ext.other hp) (S.other hp) ⟨p, vs, rfl, hp, upd_same, S.free hp, r.ext (Ext.other hp)⟩
theorem d_int {K : PySem.W.Frag} {μ : List Addr} {H : Hp} {i : Int} {v : V} (h : Rep K μ H (.int i) v) : v = .int i := by simpa only [Rep] using h
theorem d_str {K : PySem.W.Frag} {μ : List Addr} {H : Hp} {i : Str} {v : V} (h : Rep K μ H (.str i) v) : v = .str i := by simpa only [Rep] using h
theorem d_bl {K : PySem.W.Frag} {μ : List Addr} {H : Hp} {i : Bool} {v : V} (h : Rep K μ H (.bl i) v) : v = .bl i := by simpa only [Rep] using h
theorem d_non {K : PySem.W.Frag} {μ : List Addr} {H : Hp} {v : V} (h : Rep K μ H .non v) : v = .non := by simpa only [Rep] using h
theorem d_tup {K : PySem.W.Frag} {μ : List Addr} {H : Hp} {ds : List D} {v : V} (h : Rep K μ H (.tup ds) v) : ∃ a vs, v = .ref a ∧ SqT K H a vs ∧ Reps K μ H ds vs := by simpa only [Rep] using h
theorem d_ref {K : PySem.W.Frag} {μ : List Addr} {H : Hp} {n : Nat} {v : V} (h : Rep K μ H (.ref n) v) : ∃ a, μ[n]? = some a ∧ v = .ref a := by simpa only [Rep] using h
theorem r_int {K : PySem.W.Frag} {μ : List Addr} {H : Hp} {i : Int} : (RD K).r H μ H (.int i) (.int i) := by simp only [RD, Rep]
theorem r_str {K : PySem.W.Frag} {μ : List Addr} {H : Hp} {i : Str} : (RD K).r H μ H (.str i) (.str i) := by simp only [RD, Rep]
theorem r_bl {K : PySem.W.Frag} {μ : List Addr} {H : Hp} {i : Bool} : (RD K).r H μ H (.bl i) (.bl i) := by simp only [RD, Rep]
theorem r_non {K : PySem.W.Frag} {μ : List Addr} {H : Hp} : (RD K).r H μ H .non .non := by simp only [RD, Rep]
theorem r_tup {K : PySem.W.Frag} {μ : List Addr} {H : Hp} {ds : List D} {a : Addr} {vs : List V} (h : SqT K H a vs) (r : Reps K μ H ds vs) : (RD K).r H μ H (.tup ds) (.ref a) := by
  simp only [RD, Rep]; exact ⟨a, vs, rfl, h, r⟩
theorem OpR.imp {f : Value → Value → Sem Value} {r r' : R2} (h : OpR X f r) (k : ∀ x y H Q, r' x y H Q → r x y H Q) : OpR X f r' :=
  fun pins s σ H x y v u Q I rx ry q => h pins s σ H x y v u Q I rx ry (k x y H Q q)

/-- truths among numbers -/
def rMix (g : Int → Int → Int) : R2 := fun x y H Q => (∃ i b, x = .int i ∧ y = .bl b ∧ Q (.int (g i (dI b))) H) ∨ (∃ b i, x = .bl b ∧ y = .int i ∧ Q (.int (g (dI b) i)) H) ∨ (∃ a b, x = .bl a ∧ y = .bl b ∧ Q (.int (g (dI a) (dI b))) H)
theorem op_add_mix : OpR X (binaryOp .Add) (rMix fun i j => i + j) := by
  intro pins s σ H x y v u Q I rx ry h
  rcases h with ⟨i, b, rfl, rfl, q⟩ | ⟨b, i, rfl, rfl, q⟩ | ⟨a, b, rfl, rfl, q⟩
  · obtain ⟨t, rfl⟩ := rx; cases ry
    exact add_int_bool ⟨.int (i + dI b), H, I.tok _, ⟨_, rfl⟩, q⟩
  · obtain ⟨t, rfl⟩ := ry; cases rx
    exact IntBool.add_bool_int ⟨.int (dI b + i), H, I.tok _, ⟨_, rfl⟩, q⟩
  · cases rx; cases ry
    exact add_bool ⟨.int (dI a + dI b), H, I.tok _, ⟨_, rfl⟩, q⟩
theorem op_sub_mix : OpR X (binaryOp .Sub) (rMix fun i j => i - j) := by
  intro pins s σ H x y v u Q I rx ry h
  rcases h with ⟨i, b, rfl, rfl, q⟩ | ⟨b, i, rfl, rfl, q⟩ | ⟨a, b, rfl, rfl, q⟩
  · obtain ⟨t, rfl⟩ := rx; cases ry
    exact IntBool.sub_int_bool ⟨.int (i - dI b), H, I.tok _, ⟨_, rfl⟩, q⟩
  · obtain ⟨t, rfl⟩ := ry; cases rx
    exact IntBool.sub_bool_int ⟨.int (dI b - i), H, I.tok _, ⟨_, rfl⟩, q⟩
  · cases rx; cases ry
    exact sub_bool ⟨.int (dI a - dI b), H, I.tok _, ⟨_, rfl⟩, q⟩
theorem od_add : OpD X (RD X.K) (binaryOp .Add) oAdd := fun Wx => by
  refine OpR.imp ((op_add.or (op_add_str.or op_catA)).or op_add_mix) fun x y H Q ⟨μ, ah, dx, dy, S, rx, ry, hp⟩ => ?_
  unfold oAdd at hp
  split at hp
  · rw [d_int rx, d_int ry]; exact .inl (.inl ⟨_, _, rfl, rfl, hp.ok1 S r_int⟩)
  · split at hp
    · rename_i hl
      rw [d_str rx, d_str ry]; exact .inl (.inr (.inl ⟨_, _, rfl, rfl, line_le hl, hp.ok1 S r_str⟩))
    · exact hp.elim
  · split at hp
    · rename_i ah' xs ys hl
      obtain ⟨a, vs, rfl, hx, r1⟩ := d_tup rx
      obtain ⟨b, ws, rfl, hy, r2⟩ := d_tup ry
      have l1 := r1.length
      have l2 := r2.length
      refine .inl (.inr (.inr ⟨a, b, vs, ws, rfl, rfl, hx, hy, line_le (by omega), ?_⟩))
      refine ⟨fun e => hp.ok1 S (r_tup hy ?_), fun _ e => hp.ok1 S (r_tup hx ?_), fun _ _ p np => hp.newT S (r1.append r2) np⟩
      · subst e
        have z := List.length_eq_zero_iff.mp l1
        rw [z]; exact r2
      · subst e
        have z := List.length_eq_zero_iff.mp l2
        rw [z, List.append_nil]; exact r1
    · exact hp.elim
  · rw [d_int rx, d_bl ry]; exact .inr (.inl ⟨_, _, rfl, rfl, hp.ok1 S r_int⟩)
  · rw [d_bl rx, d_int ry]; exact .inr (.inr (.inl ⟨_, _, rfl, rfl, hp.ok1 S r_int⟩))
  · rw [d_bl rx, d_bl ry]; exact .inr (.inr (.inr ⟨_, _, rfl, rfl, hp.ok1 S r_int⟩))
  · exact hp.elim
theorem od_sub : OpD X (RD X.K) (binaryOp .Sub) oSub := fun Wx => by
  refine OpR.imp (op_sub.or op_sub_mix) fun x y H Q ⟨μ, ah, dx, dy, S, rx, ry, hp⟩ => ?_
  unfold oSub at hp
  split at hp
  · rw [d_int rx, d_int ry]; exact .inl ⟨_, _, rfl, rfl, hp.ok1 S r_int⟩
  · rw [d_int rx, d_bl ry]; exact .inr (.inl ⟨_, _, rfl, rfl, hp.ok1 S r_int⟩)
  · rw [d_bl rx, d_int ry]; exact .inr (.inr (.inl ⟨_, _, rfl, rfl, hp.ok1 S r_int⟩))
  · rw [d_bl rx, d_bl ry]; exact .inr (.inr (.inr ⟨_, _, rfl, rfl, hp.ok1 S r_int⟩))
  · exact hp.elim
theorem od_mul : OpD X (RD X.K) (binaryOp .Mult) oMul := fun Wx => by
  refine OpR.imp (op_mulW.or op_repT) fun x y H Q ⟨μ, ah, dx, dy, S, rx, ry, hp⟩ => ?_
  unfold oMul at hp
  split at hp
  · split at hp
    · rename_i hl
      rw [d_int rx, d_int ry]; exact .inl ⟨_, _, rfl, rfl, by unfold CMulW; unfold mulOk at hl; exact of_decide_eq_true hl, hp.ok1 S r_int⟩
    · exact hp.elim
  · split at hp
    · rename_i ah' xs k hl
      obtain ⟨a, vs, rfl, hx, r1⟩ := d_tup rx
      rw [d_int ry]
      have l1 := r1.length
      refine .inr ⟨a, k, vs, rfl, rfl, hx, fun e => hl.1 (List.length_eq_zero_iff.mp (by rw [l1, e]; rfl)), hl.2.1, hl.2.2.1, by omega, fun p np => hp.newT S ?_ np⟩
      have rep : ∀ n : Nat, Reps X.K μ H (List.replicate n xs).flatten (List.replicate n vs).flatten := fun n => by
        induction n with
        | zero => exact Reps.nil
        | succ n ih => rw [List.replicate_succ, List.replicate_succ, List.flatten_cons, List.flatten_cons]; exact r1.append ih
      exact rep _
    · exact hp.elim
  · exact hp.elim
theorem od_fdiv : OpD X (RD X.K) (binaryOp .FloorDiv) oFdiv := fun Wx => by
  refine OpR.imp op_fdivW fun x y H Q ⟨μ, ah, dx, dy, S, rx, ry, hp⟩ => ?_
  unfold oFdiv at hp
  split at hp
  · split at hp
    · rename_i hl
      rw [d_int rx, d_int ry]; exact ⟨_, _, rfl, rfl, hl, hp.ok1 S r_int⟩
    · exact hp.elim
  · exact hp.elim
theorem od_mod : OpD X (RD X.K) (binaryOp .Mod) oMod := fun Wx => by
  refine OpR.imp op_mod fun x y H Q ⟨μ, ah, dx, dy, S, rx, ry, hp⟩ => ?_
  unfold oMod at hp
  split at hp
  · split at hp
    · rename_i hl
      rw [d_int rx, d_int ry]; exact ⟨_, _, rfl, rfl, hl, hp.ok1 S r_int⟩
    · exact hp.elim
  · exact hp.elim
theorem od_pow : OpD X (RD X.K) (binaryOp .Pow) oPow := fun Wx => by
  refine OpR.imp op_pow fun x y H Q ⟨μ, ah, dx, dy, S, rx, ry, hp⟩ => ?_
  unfold oPow at hp
  split at hp
  · split at hp
    · rename_i hl
      rw [d_int rx, d_int ry]; exact ⟨_, _, rfl, rfl, hl, hp.ok1 S r_int⟩
    · exact hp.elim
  · exact hp.elim

end
end HA

/-! HA4: data as a whole (PyData): what is read in the heap, repr. -/
namespace HA
open PySem PySem.Spec PyProof.Rows L2

/-- d is read at v; no dict of it is the table of modules -/
inductive SR (h : Heap) : Value → PyData → Prop where
  | none : SR h .none .none
  | bool (b : Bool) : SR h (.bool b) (.bool b)
  | int (i : Int) (t : Tok) : SR h (.int i t) (.int i)
  | str (x : Str) (t : Tok) : SR h (.str x t) (.str x)
  | list {a : Addr} {o : Obj} {us : Array Value} {n : Nat} {ps : List PyData} : h.get? a = some o → o.cls = .type "list" → o.data = .seq us n → (us.toList.length = ps.length) → (∀ (i : Nat) u p, us.toList[i]? = some u → ps[i]? = some p → SR h u p) → SR h (.ref a) (.list ps)
  | tuple {a : Addr} {o : Obj} {us : Array Value} {n : Nat} {ps : List PyData} : h.get? a = some o → o.cls = .type "tuple" → o.data = .seq us n → (us.toList.length = ps.length) → (∀ (i : Nat) u p, us.toList[i]? = some u → ps[i]? = some p → SR h u p) → SR h (.ref a) (.tuple ps)
  | dict {a : Addr} {o : Obj} {es : Array DictEntry} {n : Nat} {kvs : List (PyData × PyData)} : h.get? a = some o → o.cls = .type "dict" → o.data = .dict es n → (a == sysModules) = false → es.toList.length = kvs.length →
      (∀ (i : Nat) e q, es.toList[i]? = some e → kvs[i]? = some q → SR h e.key q.1) → (∀ (i : Nat) e q, es.toList[i]? = some e → kvs[i]? = some q → SR h e.val q.2) → SR h (.ref a) (.dict kvs)

theorem readsAll_mk {h : Heap} : ∀ (us : List Value) (ps : List PyData), us.length = ps.length → (∀ (i : Nat) u p, us[i]? = some u → ps[i]? = some p → ∃ as, Reads h u p as) → ∃ as, ReadsAll h us ps as
  | [], [], _, _ => ⟨_, .nil⟩
  | u :: us, p :: ps, hl, hf => by
    obtain ⟨as, h1⟩ := hf 0 u p rfl rfl
    obtain ⟨bs, h2⟩ := readsAll_mk us ps (by simpa using hl) fun i u' p' e1 e2 => hf (i + 1) u' p' (by simpa using e1) (by simpa using e2)
    exact ⟨_, .cons h1 h2⟩
  | [], _ :: _, hl, _ => by simp at hl
  | _ :: _, [], hl, _ => by simp at hl
theorem SR.reads {h : Heap} {v : Value} {d : PyData} (r : SR h v d) : ∃ as, Reads h v d as := by
  induction r with
  | none => exact ⟨_, .none⟩
  | bool b => exact ⟨_, .bool b⟩
  | int i t => exact ⟨_, .int i t⟩
  | str x t => exact ⟨_, .str x t⟩
  | list h1 h2 h3 h4 _ ih =>
    obtain ⟨as, q⟩ := readsAll_mk _ _ h4 ih
    exact ⟨_, .list h1 h2 h3 q⟩
  | tuple h1 h2 h3 h4 _ ih =>
    obtain ⟨as, q⟩ := readsAll_mk _ _ h4 ih
    exact ⟨_, .tuple h1 h2 h3 q⟩
  | @dict a o es n kvs h1 h2 h3 _ h4 _ _ ih1 ih2 =>
    have k1 : ∃ as, ReadsAll h (es.toList.map (·.key)) (kvs.map (·.1)) as := readsAll_mk _ _ (by simpa using h4) fun i u p e1 e2 => by
      rw [List.getElem?_map] at e1 e2
      cases q1 : es.toList[i]? with
      | none => rw [q1] at e1; cases e1
      | some e =>
        cases q2 : kvs[i]? with
        | none => rw [q2] at e2; cases e2
        | some q =>
          rw [q1] at e1; rw [q2] at e2; cases e1; cases e2
          exact ih1 i e q q1 q2
    have k2 : ∃ as, ReadsAll h (es.toList.map (·.val)) (kvs.map (·.2)) as := readsAll_mk _ _ (by simpa using h4) fun i u p e1 e2 => by
      rw [List.getElem?_map] at e1 e2
      cases q1 : es.toList[i]? with
      | none => rw [q1] at e1; cases e1
      | some e =>
        cases q2 : kvs[i]? with
        | none => rw [q2] at e2; cases e2
        | some q =>
          rw [q1] at e1; rw [q2] at e2; cases e1; cases e2
          exact ih2 i e q q1 q2
    obtain ⟨as, k1⟩ := k1
    obtain ⟨bs, k2⟩ := k2
    exact ⟨_, .dict h1 h2 h3 k1 k2⟩

/-! ### repr -/
section
variable {prog : Program} {w : World} {h : Heap}
def RK (prog : Program) (w : World) (h : Heap) (u : Value) (p : PyData) : Prop := p.showable = true → p.shown.length ≤ sizeLine → ∃ bs, ReadAtMost h p.depth bs ∧ ReprK prog w bs h p.depth u p.shown
theorem rk_all : ∀ (us : List Value) (ps : List PyData), us.length = ps.length → (∀ (i : Nat) u p, us[i]? = some u → ps[i]? = some p → RK prog w h u p) → PyData.showableAll ps = true → (∀ t ∈ PyData.shownAll ps, t.length ≤ sizeLine) →
    ∃ bs, ReadAtMost h (PyData.depthAll ps) bs ∧ ReprAllK prog w bs h (PyData.depthAll ps) us (PyData.shownAll ps)
  | [], [], _, _, _, _ => ⟨[], (fun _ z => nomatch z), by simp only [PyData.shownAll]; exact .nil⟩
  | [], _ :: _, hl, _, _, _ => by simp at hl
  | _ :: _, [], hl, _, _, _ => by simp at hl
  | u :: us, p :: ps, hl, hf, hs, hz => by
    simp only [PyData.showableAll, Bool.and_eq_true] at hs
    simp only [PyData.shownAll, List.mem_cons] at hz
    obtain ⟨c1, m1, q1⟩ := hf 0 u p rfl rfl hs.1 (hz _ (.inl rfl))
    obtain ⟨c2, m2, q2⟩ := rk_all us ps (by simpa using hl) (fun i u' p' e1 e2 => hf (i + 1) u' p' (by simpa using e1) (by simpa using e2)) hs.2 fun t ht => hz t (.inr ht)
    have l1 : p.depth ≤ PyData.depthAll (p :: ps) := by simp only [PyData.depthAll]; exact Nat.le_max_left _ _
    have l2 : PyData.depthAll ps ≤ PyData.depthAll (p :: ps) := by simp only [PyData.depthAll]; exact Nat.le_max_right _ _
    refine ⟨c1 ++ c2, (m1.mono l1).append (m2.mono l2), ?_⟩
    simp only [PyData.shownAll]
    exact .cons ((q1.more fun b z => List.mem_append.mpr (.inl z)).level_le l1) (q2.more_le (fun b z => List.mem_append.mpr (.inr z)) l2)
/-- what the three containers tell of themselves: the class's slots, the call of the built-in -/
theorem rk_list {a : Addr} {o : Obj} {us : Array Value} {n : Nat} {ps : List PyData} (h1 : h.get? a = some o) (h2 : o.cls = .type "list") (h3 : o.data = .seq us n) (rd : ∃ as, Reads h (.ref a) (.list ps) as) (hl : us.toList.length = ps.length)
    (hf : ∀ (i : Nat) u p, us.toList[i]? = some u → ps[i]? = some p → RK prog w h u p) (hs : PyData.showable (.list ps) = true) (hz : (PyData.shown (.list ps)).length ≤ sizeLine) :
    ∃ bs, ReadAtMost h (PyData.depthAll ps) bs ∧ a ∉ bs ∧ ReprAllK prog w bs h (PyData.depthAll ps) us.toList (PyData.shownAll ps) := by
  simp only [PyData.shown] at hz
  simp only [PyData.showable] at hs
  obtain ⟨bs, hb, hk⟩ := rk_all us.toList ps hl hf hs fun t ht => Nat.le_trans (listText_mem_le ht) hz
  obtain ⟨as, r⟩ := rd
  exact ⟨bs, hb, not_mem_of_deeper r (by simp only [PyData.depth]; omega) hb, hk⟩
theorem rk_tuple {a : Addr} {o : Obj} {us : Array Value} {n : Nat} {ps : List PyData} (h1 : h.get? a = some o) (h2 : o.cls = .type "tuple") (h3 : o.data = .seq us n) (rd : ∃ as, Reads h (.ref a) (.tuple ps) as) (hl : us.toList.length = ps.length)
    (hf : ∀ (i : Nat) u p, us.toList[i]? = some u → ps[i]? = some p → RK prog w h u p) (hs : PyData.showable (.tuple ps) = true) (hz : (PyData.shown (.tuple ps)).length ≤ sizeLine) :
    ∃ bs, ReadAtMost h (PyData.depthAll ps) bs ∧ a ∉ bs ∧ ReprAllK prog w bs h (PyData.depthAll ps) us.toList (PyData.shownAll ps) := by
  simp only [PyData.shown] at hz
  simp only [PyData.showable] at hs
  obtain ⟨bs, hb, hk⟩ := rk_all us.toList ps hl hf hs fun t ht => Nat.le_trans (tupleText_mem_le ht) hz
  obtain ⟨as, r⟩ := rd
  exact ⟨bs, hb, not_mem_of_deeper r (by simp only [PyData.depth]; omega) hb, hk⟩
theorem map_get {α β : Type} {f : α → β} {l : List α} {i : Nat} {b : β} (e : (l.map f)[i]? = some b) : ∃ a, l[i]? = some a ∧ b = f a := by
  rw [List.getElem?_map] at e
  cases q : l[i]? with
  | none => rw [q] at e; cases e
  | some a => rw [q] at e; cases e; exact ⟨a, rfl, rfl⟩
theorem rk_dict {a : Addr} {o : Obj} {es : Array DictEntry} {n : Nat} {kvs : List (PyData × PyData)} (h1 : h.get? a = some o) (h2 : o.cls = .type "dict") (h3 : o.data = .dict es n) (rd : ∃ as, Reads h (.ref a) (.dict kvs) as) (hl : es.toList.length = kvs.length)
    (hf : ∀ (i : Nat) e q, es.toList[i]? = some e → kvs[i]? = some q → RK prog w h e.key q.1) (hg : ∀ (i : Nat) e q, es.toList[i]? = some e → kvs[i]? = some q → RK prog w h e.val q.2) (hs : PyData.showable (.dict kvs) = true) (hz : (PyData.shown (.dict kvs)).length ≤ sizeLine) :
    ∃ bs, ReadAtMost h (PyData.depthKv kvs) bs ∧ a ∉ bs ∧ ReprEntriesK prog w bs h (PyData.depthKv kvs) es.toList (PyData.shownKv kvs) := by
  simp only [PyData.shown] at hz
  simp only [PyData.showable] at hs
  obtain ⟨s1, s2⟩ := PyData.showableKv_split kvs hs
  have up : ∀ (t : Str) (p : Str), p ∈ PyData.shownKv kvs → t.length ≤ p.length → t.length ≤ sizeLine := fun t p hp ht => Nat.le_trans ht (Nat.le_trans (dictText_mem_le hp) hz)
  obtain ⟨c1, m1, q1⟩ := rk_all (prog := prog) (w := w) (h := h) (es.toList.map (·.key)) (kvs.map (·.1)) (by simpa using hl) (fun i u p e1 e2 => by
    obtain ⟨e, x1, rfl⟩ := map_get e1
    obtain ⟨q, x2, rfl⟩ := map_get e2
    exact hf i e q x1 x2) s1 fun t ht => let ⟨p, hp, l⟩ := PyData.shownKv_key_le kvs t ht; up t p hp l
  obtain ⟨c2, m2, q2⟩ := rk_all (prog := prog) (w := w) (h := h) (es.toList.map (·.val)) (kvs.map (·.2)) (by simpa using hl) (fun i u p e1 e2 => by
    obtain ⟨e, x1, rfl⟩ := map_get e1
    obtain ⟨q, x2, rfl⟩ := map_get e2
    exact hg i e q x1 x2) s2 fun t ht => let ⟨p, hp, l⟩ := PyData.shownKv_val_le kvs t ht; up t p hp l
  obtain ⟨as, r⟩ := rd
  have hb : ReadAtMost h (PyData.depthKv kvs) (c1 ++ c2) := (m1.mono (PyData.depthAll_keys_le kvs)).append (m2.mono (PyData.depthAll_vals_le kvs))
  refine ⟨c1 ++ c2, hb, not_mem_of_deeper r (by simp only [PyData.depth]; omega) hb, ?_⟩
  rw [PyData.shownKv_eq]
  exact ReprEntriesK.of_two es.toList _ _ (q1.more_le (fun b z => List.mem_append.mpr (.inl z)) (PyData.depthAll_keys_le kvs)) (q2.more_le (fun b z => List.mem_append.mpr (.inr z)) (PyData.depthAll_vals_le kvs))
theorem SR.rk {v : Value} {d : PyData} (r : SR h v d) : RK prog w h v d := by
  induction r with
  | none => exact fun _ _ => ⟨[], (fun _ z => nomatch z), by simp only [PyData.shown]; exact .of_is ReprIs.none _ _ _⟩
  | bool b => exact fun _ _ => ⟨[], (fun _ z => nomatch z), by simp only [PyData.shown]; exact .of_is (ReprIs.bool b) _ _ _⟩
  | int i t => exact fun hs _ => ⟨[], (fun _ z => nomatch z), by simp only [PyData.shown]; exact .of_is (ReprIs.int t (by simpa [PyData.showable] using hs)) _ _ _⟩
  | str x t => exact fun _ hz => ⟨[], (fun _ z => nomatch z), by simp only [PyData.shown] at hz ⊢; exact .of_is (ReprIs.str x t hz) _ _ _⟩
  | @list a o us n ps h1 h2 h3 h4 h5 ih =>
    intro hs hz
    have rd := (SR.list h1 h2 h3 h4 h5).reads
    obtain ⟨bs, hb, hna, hk⟩ := rk_list h1 h2 h3 rd h4 ih hs hz
    obtain ⟨as, r⟩ := rd
    refine ⟨a :: bs, ReadAtMost.cons r (by simp only [PyData.depth]; omega) hb, ?_⟩
    simp only [PyData.depth, PyData.shown]
    obtain ⟨l⟩ := us
    cases l with
    | nil =>
      cases ps with
      | nil =>
        simp only [PyData.shownAll, listText_nil]
        exact ReprK.listEmpty h1 h2 h3
      | cons _ _ => simp at h4
    | cons x l => exact ReprK.list h1 h2 h3 hna (by simpa using hk.length_eq) fun i y e => hk.item i y (by simpa using e)
  | @tuple a o us n ps h1 h2 h3 h4 h5 ih =>
    intro hs hz
    have rd := (SR.tuple h1 h2 h3 h4 h5).reads
    obtain ⟨bs, hb, hna, hk⟩ := rk_tuple h1 h2 h3 rd h4 ih hs hz
    obtain ⟨as, r⟩ := rd
    refine ⟨a :: bs, ReadAtMost.cons r (by simp only [PyData.depth]; omega) hb, ?_⟩
    simp only [PyData.depth, PyData.shown]
    exact ReprK.tuple h1 h2 h3 hna hk
  | @dict a o es n kvs h1 h2 h3 hsys h4 h5 h6 ih1 ih2 =>
    intro hs hz
    have rd := (SR.dict h1 h2 h3 hsys h4 h5 h6).reads
    obtain ⟨bs, hb, hna, hk⟩ := rk_dict h1 h2 h3 rd h4 ih1 ih2 hs hz
    obtain ⟨as, r⟩ := rd
    refine ⟨a :: bs, ReadAtMost.cons r (by simp only [PyData.depth]; omega) hb, ?_⟩
    simp only [PyData.depth, PyData.shown]
    exact ReprK.dict h1 h2 h3 hsys hna hk
theorem SR.shows {a : Addr} {d : PyData} (r : SR h (.ref a) d) (hs : d.showable = true) (hz : d.shown.length ≤ sizeLine) : ∃ T idr, ShowsBy prog w h a d T idr := by
  have rd := r.reads
  cases r with
  | @list _ o us n ps h1 h2 h3 h4 h5 =>
    obtain ⟨bs, hb, hna, hk⟩ := rk_list h1 h2 h3 rd h4 (fun i u p e1 e2 => (h5 i u p e1 e2).rk) hs hz
    refine ⟨"list", "list.__repr__", F.slot_list_repr.toG, F.slot_list_str, F.slot_list_format, fun s k0 => ⟨o, k0 _ _ h1, h2⟩, fun A E s Q hg hu k0 hQ => ?_⟩
    simp only [PyData.depth] at hu
    simp only [PyData.shown] at hQ hz
    obtain ⟨l⟩ := us
    cases l with
    | nil =>
      cases ps with
      | nil =>
        simp only [PyData.shownAll, listText_nil] at hQ
        exact call_list_repr_empty ⟨o, k0 _ _ h1, h2⟩ (k0 _ _ h1) h3 (hQ s.heap _ _ fun _ _ e => e)
      | cons _ _ => simp at h4
    | cons x l => exact call_list_reprK h1 h2 h3 hna (by simpa using hk.length_eq) (fun i y e => hk.item i y (by simpa using e)) hg (fun b _ => Clear.nil b) hu k0 hQ hz
  | @tuple _ o us n ps h1 h2 h3 h4 h5 =>
    obtain ⟨bs, hb, hna, hk⟩ := rk_tuple h1 h2 h3 rd h4 (fun i u p e1 e2 => (h5 i u p e1 e2).rk) hs hz
    refine ⟨"tuple", "tuple.__repr__", F.slot_tuple_repr, F.slot_tuple_str, F.slot_tuple_format, fun s k0 => ⟨o, k0 _ _ h1, h2⟩, fun A E s Q hg hu k0 hQ => ?_⟩
    simp only [PyData.depth] at hu
    simp only [PyData.shown] at hQ hz
    exact call_tuple_reprK h1 h2 h3 hna hk hg (fun b _ => Clear.nil b) hu k0 hQ hz
  | @dict _ o es n kvs h1 h2 h3 hsys h4 h5 h6 =>
    obtain ⟨bs, hb, hna, hk⟩ := rk_dict h1 h2 h3 rd h4 (fun i u p e1 e2 => (h5 i u p e1 e2).rk) (fun i u p e1 e2 => (h6 i u p e1 e2).rk) hs hz
    refine ⟨"dict", "dict.__repr__", F.slot_dict_repr, F.slot_dict_str, F.slot_dict_format, fun s k0 => ⟨o, k0 _ _ h1, h2⟩, fun A E s Q hg hu k0 hQ => ?_⟩
    simp only [PyData.depth] at hu
    simp only [PyData.shown] at hQ hz
    exact call_dict_reprK h1 h2 h3 hsys hna hk hg (fun b _ => Clear.nil b) hu k0 hQ hz
/-- repr(v) of data -/
theorem SR.repr {v : Value} {d : PyData} {A : Around} {E : Value → Shared → Prop} {s : Shared} {Q : Value → Shared → Prop} (r : SR s.heap v d) (hs : d.showable = true) (hz : d.shown.length ≤ sizeLine) (hg : A.guards = some []) (hu : A.units + (d.depth + 1) < cLine)
    (hQ : ∀ h' u tk, (∀ b o, s.heap.get? b = some o → h'.get? b = some o) → Q (.str d.shown u) { s with heap := h', toks := tk }) : wpAny (model prog w) A (call (.builtin "repr") [v]) Q E s := by
  have r' := r
  cases r with
  | none => simp only [PyData.shown] at hQ; exact PySem.P.repr_of_none (hQ s.heap _ _ fun _ _ e => e)
  | bool b => simp only [PyData.shown] at hQ; exact PySem.P.repr_of_bool (hQ s.heap _ _ fun _ _ e => e)
  | int i t => simp only [PyData.shown] at hQ; exact PySem.P.repr_of_int (by simpa [PyData.showable] using hs) (hQ s.heap _ _ fun _ _ e => e)
  | str x t => simp only [PyData.shown] at hQ hz; exact PySem.P.repr_of_str (hQ s.heap _ _ fun _ _ e => e) hz
  | list _ _ _ _ _ =>
    obtain ⟨T, idr, S⟩ := SR.shows (prog := prog) (w := w) r' hs hz
    exact call_repr_slot (by omega) (S.typeIs s fun _ _ e => e) S.slotRepr (S.call A.in1 E s _ hg (by show A.units + 1 + _ < cLine; omega) (fun _ _ e => e) fun h' u tk hk => ⟨_, _, rfl, hQ h' u tk hk⟩)
  | tuple _ _ _ _ _ =>
    obtain ⟨T, idr, S⟩ := SR.shows (prog := prog) (w := w) r' hs hz
    exact call_repr_slot (by omega) (S.typeIs s fun _ _ e => e) S.slotRepr (S.call A.in1 E s _ hg (by show A.units + 1 + _ < cLine; omega) (fun _ _ e => e) fun h' u tk hk => ⟨_, _, rfl, hQ h' u tk hk⟩)
  | dict _ _ _ _ _ _ _ =>
    obtain ⟨T, idr, S⟩ := SR.shows (prog := prog) (w := w) r' hs hz
    exact call_repr_slot (by omega) (S.typeIs s fun _ _ e => e) S.slotRepr (S.call A.in1 E s _ hg (by show A.units + 1 + _ < cLine; omega) (fun _ _ e => e) fun h' u tk hk => ⟨_, _, rfl, hQ h' u tk hk⟩)
end

/-! ### from our objects -/
def optAll {α β : Type} (f : α → Option β) : List α → Option (List β)
  | [] => some []
  | a :: r => match f a, optAll f r with
    | some b, some bs => some (b :: bs)
    | _, _ => none
theorem optAll_cons {α β : Type} {f : α → Option β} {a : α} {r : List α} {bs : List β} (h : optAll f (a :: r) = some bs) : ∃ b cs, bs = b :: cs ∧ f a = some b ∧ optAll f r = some cs := by
  unfold optAll at h
  split at h
  · rename_i b cs h1 h2
    cases h
    exact ⟨b, cs, rfl, h1, h2⟩
  · cases h
theorem optAll_length {α β : Type} {f : α → Option β} : ∀ {l : List α} {bs : List β}, optAll f l = some bs → l.length = bs.length
  | [], bs, h => by cases h; rfl
  | a :: r, bs, h => by
    obtain ⟨b, cs, rfl, _, h2⟩ := optAll_cons h
    simp [optAll_length h2]
theorem optAll_get {α β : Type} {f : α → Option β} : ∀ {l : List α} {bs : List β} {i : Nat} {a : α} {b : β}, optAll f l = some bs → l[i]? = some a → bs[i]? = some b → f a = some b
  | [], bs, i, a, b, h, e, _ => by simp at e
  | x :: r, bs, i, a, b, h, e1, e2 => by
    obtain ⟨y, cs, rfl, h1, h2⟩ := optAll_cons h
    cases i with
    | zero => simp at e1 e2; subst e1; subst e2; exact h1
    | succ i => exact optAll_get (i := i) h2 (by simpa using e1) (by simpa using e2)
def keyP : Key → PyData
  | .inl i => .int i
  | .inr x => .str x
/-- the datum, references followed -/
def toP (ah : AH) : Nat → D → Option PyData
  | 0, _ => none
  | f + 1, d => match d with
    | .non => some .none
    | .bl b => some (.bool b)
    | .int i => some (.int i)
    | .str x => some (.str x)
    | .tup ds => (optAll (toP ah f) ds).map .tuple
    | .ref n => match ah[n]? with
      | some (.lst ds) => (optAll (toP ah f) ds).map .list
      | some (.ro ds) => (optAll (toP ah f) ds).map .list
      | some (.dK kvs) => (optAll (toP ah f) (kvs.map (·.2))).map fun vs => .dict ((kvs.map fun kv => keyP kv.1).zip vs)
      | _ => none
    | .cst _ => none
/-- deep enough for all -/
def deep : Nat := 63
abbrev pd (ah : AH) (d : D) : Option PyData := toP ah deep d

theorem pairs_get {P : Program} {w : World} {es : List DictEntry} {kvs : List (Key × Value)} (p : Pairs (mixKind P w) es kvs) : es.length = kvs.length ∧ ∀ (i : Nat) e q, es[i]? = some e → kvs[i]? = some q → keyIs q.1 e.key = true ∧ e.val = q.2 := by
  induction p with
  | nil => exact ⟨rfl, fun i e q z => by simp at z⟩
  | cons h1 h2 _ ih =>
    refine ⟨by simp [ih.1], fun i e q z1 z2 => ?_⟩
    cases i with
    | zero => simp at z1 z2; subst z1; subst z2; exact ⟨h1, h2⟩
    | succ i => exact ih.2 i e q (by simpa using z1) (by simpa using z2)
theorem kv_get {kvs : List (Key × V)} {vs : List (Key × Value)} (r : KV kvs vs) : kvs.length = vs.length ∧ ∀ (i : Nat) a b, kvs[i]? = some a → vs[i]? = some b → a.1 = b.1 ∧ RelV a.2 b.2 := by
  refine ⟨KV.length r, ?_⟩
  induction r with
  | nil => exact fun i a b z => by simp at z
  | cons h1 _ ih =>
    intro i a b z1 z2
    cases i with
    | zero => simp at z1 z2; subst z1; subst z2; exact h1
    | succ i => exact ih i a b (by simpa using z1) (by simpa using z2)
section
variable {X : Cx} {pins : List (Addr × Obj)} {σ : L2.St} {μ : List Addr} {H : Hp} {s : Shared} {ah : AH}
theorem Inv.sr (I : Inv X pins σ H s) (S : Sim X.K μ H ah) : ∀ (f : Nat) (d : D) (v : V) (u : Value) (p : PyData), toP ah f d = some p → Rep X.K μ H d v → RelV v u → SR s.heap u p
  | 0, _, _, _, _, h, _, _ => by cases h
  | f + 1, d, v, u, p, h, r, ru => by
    have seqs : ∀ (ds : List D) (vs : List V) (us : List Value) (ps : List PyData), optAll (toP ah f) ds = some ps → Reps X.K μ H ds vs → Vals vs us → us.length = ps.length ∧ ∀ (i : Nat) u p, us[i]? = some u → ps[i]? = some p → SR s.heap u p := fun ds vs us ps h1 h2 h3 => by
      refine ⟨by rw [← h3.length, ← h2.length]; exact optAll_length h1, fun i u p e1 e2 => ?_⟩
      have hi : i < ds.length := by rw [optAll_length h1]; exact (List.getElem?_eq_some_iff.mp e2).1
      have e3 : ds[i]? = some ds[i] := List.getElem?_eq_getElem hi
      obtain ⟨v, e4, rv⟩ := h2.get e3
      obtain ⟨u', e5, ru'⟩ := h3.get e4
      rw [e1] at e5; cases e5
      exact Inv.sr I S f _ v u p (optAll_get h1 e3 e2) rv ru'
    cases d with
    | non => cases h; rw [d_non r] at ru; cases ru; exact .none
    | bl b => cases h; rw [d_bl r] at ru; cases ru; exact .bool b
    | int i => cases h; rw [d_int r] at ru; obtain ⟨t, rfl⟩ := ru; exact .int i t
    | str x => cases h; rw [d_str r] at ru; obtain ⟨t, rfl⟩ := ru; exact .str x t
    | cst v => cases h
    | tup ds =>
      obtain ⟨ps, h1, rfl⟩ := Option.map_eq_some_iff.mp h
      obtain ⟨a, vs, rfl, q, r2⟩ := d_tup r
      cases ru
      obtain ⟨its, rv, ⟨o, e1, e2, n, e3⟩, _⟩ := I.tuple q
      obtain ⟨l, g⟩ := seqs ds vs its ps h1 r2 rv
      exact .tuple e1 e2 e3 l g
    | ref n =>
      obtain ⟨a, ea, rfl⟩ := d_ref r
      cases ru
      have lists : ∀ ds ps, listAt ah n = some ds → optAll (toP ah f) ds = some ps → SR s.heap (.ref a) (.list ps) := fun ds ps hl h1 => by
        obtain ⟨b, vs, eb, q, r2⟩ := S.list hl
        rw [ea] at eb; cases eb
        obtain ⟨its, rv, ⟨o, m, e1, e2, _, e3⟩, _⟩ := I.list q
        obtain ⟨l, g⟩ := seqs ds vs its ps h1 r2 rv
        exact .list e1 e2 e3 l g
      unfold toP at h
      dsimp only at h
      split at h
      · rename_i ds e
        obtain ⟨ps, h1, rfl⟩ := Option.map_eq_some_iff.mp h
        exact lists ds ps (by unfold listAt; rw [e]) h1
      · rename_i ds e
        obtain ⟨ps, h1, rfl⟩ := Option.map_eq_some_iff.mp h
        exact lists ds ps (by unfold listAt; rw [e]) h1
      · rename_i kvs e
        obtain ⟨ps, h1, rfl⟩ := Option.map_eq_some_iff.mp h
        obtain ⟨kws, e0, ek, r2⟩ := S.ok n a _ ea e
        obtain ⟨_, hsys, vs, rkv, o, es, ep, e1, e2, e3, _, pr, _⟩ := dk_of I.hok e0
        obtain ⟨l1, g1⟩ := pairs_get pr
        obtain ⟨l2, g2⟩ := kv_get rkv
        have l3 : kvs.length = kws.length := by simpa using congrArg List.length ek
        have l4 : (kvs.map (·.2)).length = ps.length := optAll_length h1
        rw [List.length_map] at l4
        have key : ∀ (i : Nat) e q, es.toList[i]? = some e → ((kvs.map fun kv => keyP kv.1).zip ps)[i]? = some q → SR s.heap e.key q.1 ∧ SR s.heap e.val q.2 := fun i e q x1 x2 => by
          obtain ⟨x3, x4⟩ := List.getElem?_zip_eq_some.mp x2
          obtain ⟨kv, x5, x6⟩ := map_get x3
          have hi : i < kws.length := by rw [← l3]; exact (List.getElem?_eq_some_iff.mp x5).1
          have x7 : kws[i]? = some kws[i] := List.getElem?_eq_getElem hi
          have x8 : vs[i]? = some (vs[i]'(by omega)) := List.getElem?_eq_getElem _
          obtain ⟨y1, y2⟩ := g2 i _ _ x7 x8
          obtain ⟨y3, y4⟩ := g1 i _ _ x1 x8
          have z1 : kv.1 = kws[i].1 := by
            have z := congrArg (fun l => l[i]?) ek
            simp only [List.getElem?_map, x5, x7, Option.map_some] at z
            exact Option.some.inj z
          have x9 : (kvs.map (·.2))[i]? = some kv.2 := by rw [List.getElem?_map, x5]; rfl
          obtain ⟨v, y5, y6⟩ := r2.get x9
          have z2 : v = kws[i].2 := by
            rw [List.getElem?_map, x7] at y5
            exact (Option.some.inj y5).symm
          subst z2
          refine ⟨?_, ?_⟩
          · rw [x6]
            rw [← y1, ← z1] at y3
            rcases keyIs_shape y3 with ⟨j, t, k1, k2⟩ | ⟨x, t, k1, k2⟩
            · rw [k1, k2]; exact .int j t
            · rw [k1, k2]; exact .str x t
          · rw [y4]
            exact Inv.sr I S f kv.2 _ _ q.2 (optAll_get h1 x9 x4) y6 y2
        refine .dict e1 e2.1 e3 hsys ?_ (fun i e q x1 x2 => (key i e q x1 x2).1) fun i e q x1 x2 => (key i e q x1 x2).2
        rw [l1, ← l2, List.length_zip, List.length_map]
        omega
      · cases h
end
end HA

/-! HA5: ==, in, is, order, truth, and/or/not, arguments, displays. -/
namespace HA
open PySem PySem.Spec PyProof.Rows L2

/-- room for calls, and no repr is under way -/
structure Rm (k : Nat) (A : Around) : Prop where
  room : Room k A
  gd : A.guards = some []
theorem Rm.mono {j k : Nat} {A : Around} (r : Rm k A) (h : j ≤ k) : Rm j A := ⟨r.room.mono h, r.gd⟩
theorem Rm.u65 {k : Nat} {A : Around} (r : Rm k A) : A.units + 65 < cLine := by have := r.room.un; omega
theorem Rm.u64 {k : Nat} {A : Around} (r : Rm k A) : A.units + 64 < cLine := by have := r.room.un; omega
theorem Rm.u1 {k : Nat} {A : Around} (r : Rm k A) : A.units + 1 < cLine := by have := r.room.un; omega

/-! ### == and != -/
def eqData (ah : AH) (x y : D) : Option Bool := match pd ah x, pd ah y with
  | some p, some q => if SeqAt.shaped p = true ∧ SeqAt.shaped q = true then some (PyData.eqv p q) else none
  | _, _ => none
/-- where the lengths tell -/
def eqLen (ah : AH) (x y : D) : Option Bool := match x, y with
  | .tup xs, .tup ys => if xs.isEmpty || ys.isEmpty then some (xs.isEmpty && ys.isEmpty) else none
  | .ref n, .ref m => match listAt ah n, listAt ah m with
    | some xs, some ys => if xs.length ≠ ys.length then some false else none
    | _, _ => none
  | _, _ => none
def cEq : D → D → AH → Res Bool
  | .int i, .int j, ah => .ok (decide (i = j)) ah
  | .str a, .str b, ah => .ok (decide (a = b)) ah
  | .bl a, .bl b, ah => .ok (decide (a = b)) ah
  | x, y, ah => match eqData ah x y with
    | some b => .ok b ah
    | none => match eqLen ah x y with
      | some b => .ok b ah
      | none => .stuck
def cNe (x y : D) (ah : AH) : Res Bool := (cEq x y ah).bind fun b ah => .ok (!b) ah
section
variable {X : Cx} {W : WX} {k : Nat}
theorem cEq_cases {x y : D} {ah : AH} {P : Res Bool → Prop} (h : P (cEq x y ah)) (h1 : ∀ i j, x = .int i → y = .int j → P (.ok (decide (i = j)) ah) → P (cEq x y ah)) : P (cEq x y ah) := h
theorem rEq_scal {K : PySem.W.Frag} {Wx : Value → Option Addr → Hp → Prop} {H : Hp} {Q : VK} {μ : List Addr} {ah : AH} {a b : V} {c : Bool} (hs : scal a b = true) (hc : decide (a = b) = c) (hp : Post K RBV Wx μ H Q (.ok c ah)) (S : Sim K μ H ah) : rEq a b H Q := ⟨hs, hp.ok1 S (by rw [hc]; rfl)⟩
theorem op_eqS (hu : X.A.units + 64 < cLine) : OpR X (compareOp .Eq) (fun x y H Q => ∃ μ ah dx dy b, Sim X.K μ H ah ∧ Rep X.K μ H dx x ∧ Rep X.K μ H dy y ∧ eqData ah dx dy = some b ∧ Q (.bl b) H) := by
  intro pins s σ H x y v u Q I rx ry ⟨μ, ah, dx, dy, b, S, r1, r2, e, q⟩
  unfold eqData at e
  split at e
  · rename_i p1 p2 e1 e2
    split at e
    · rename_i hs
      cases e
      obtain ⟨as, q1⟩ := (Inv.sr I S deep dx x v p1 e1 r1 rx).reads
      obtain ⟨bs, q2⟩ := (Inv.sr I S deep dy y u p2 e2 r2 ry).reads
      exact SeqAt.compareEq_shaped q1 q2 hs.1 hs.2 hu ⟨.bl _, H, I, rfl, q⟩
    · cases e
  · cases e
theorem op_neS (hu : X.A.units + 64 < cLine) : OpR X (compareOp .NotEq) (fun x y H Q => ∃ μ ah dx dy b, Sim X.K μ H ah ∧ Rep X.K μ H dx x ∧ Rep X.K μ H dy y ∧ eqData ah dx dy = some b ∧ Q (.bl (!b)) H) := by
  intro pins s σ H x y v u Q I rx ry ⟨μ, ah, dx, dy, b, S, r1, r2, e, q⟩
  unfold eqData at e
  split at e
  · rename_i p1 p2 e1 e2
    split at e
    · rename_i hs
      cases e
      obtain ⟨as, q1⟩ := (Inv.sr I S deep dx x v p1 e1 r1 rx).reads
      obtain ⟨bs, q2⟩ := (Inv.sr I S deep dy y u p2 e2 r2 ry).reads
      exact SeqAt.compareNe_shaped q1 q2 hs.1 hs.2 hu ⟨.bl _, H, I, rfl, q⟩
    · cases e
  · cases e
theorem range_empty {e : Nat → Bool} {m n : Nat} (h : m = 0 ∨ n = 0) : ((List.range (min m n)).all e && (m == n)) = (decide (m = 0) && decide (n = 0)) := by
  rcases h with h | h
  · subst h; simp; cases n <;> simp
  · subst h; simp; cases m <;> simp
theorem isEmpty_arr {α β : Type} {a : List α} {b : List β} (h : a.length = b.length) : a.isEmpty = decide (b.toArray.size = 0) := by
  cases a with
  | nil => cases b with
    | nil => rfl
    | cons y ys => simp at h
  | cons x xs => cases b with
    | nil => simp at h
    | cons y ys => simp
/-- what a rule needs of the things at both places -/
theorem eqLen_at {pins : List (Addr × Obj)} {σ : L2.St} {H : Hp} {s : Shared} {μ : List Addr} {ah : AH} {dx dy : D} {x y : V} {v u : Value} {b : Bool} (I : Inv X pins σ H s) (S : Sim X.K μ H ah) (r1 : Rep X.K μ H dx x) (r2 : Rep X.K μ H dy y) (rx : RelV x v) (ry : RelV y u) (e : eqLen ah dx dy = some b) (hu : X.A.units < cLine) :
    SeqAt.RcAt X.A s v u b ∧ SeqAt.RcNeAt X.A s v u (!b) := by
  unfold eqLen at e
  split at e
  · rename_i xs ys
    obtain ⟨a, vs, rfl, q1, rr1⟩ := d_tup r1
    obtain ⟨c, ws, rfl, q2, rr2⟩ := d_tup r2
    cases rx; cases ry
    obtain ⟨its, w1, p1, _⟩ := I.tuple q1
    obtain ⟨its2, w2, p2, _⟩ := I.tuple q2
    have l1 : xs.length = its.length := rr1.length.trans w1.length
    have l2 : ys.length = its2.length := rr2.length.trans w2.length
    split at e
    · rename_i hz
      cases e
      have hz' : its.toArray.size = 0 ∨ its2.toArray.size = 0 := by
        rw [isEmpty_arr l1, isEmpty_arr l2, Bool.or_eq_true, decide_eq_true_eq, decide_eq_true_eq] at hz
        exact hz
      have he : ∀ j (h1 : j < its.toArray.size) (h2 : j < its2.toArray.size), SeqAt.EqAt X.A.in1 s its.toArray[j] its2.toArray[j] ((fun _ => true) j) := fun j h1 h2 => by omega
      have A1 := SeqAt.RcAt.tuples (e := fun _ => true) p1 p2 hu he
      have A2 := SeqAt.RcNeAt.tuples (e := fun _ => true) p1 p2 hu he
      rw [range_empty hz'] at A1 A2
      rw [isEmpty_arr l1, isEmpty_arr l2]
      exact ⟨A1, A2⟩
    · cases e
  · rename_i n m
    split at e
    · rename_i xs ys e1 e2
      split at e
      · rename_i hz
        cases e
        obtain ⟨a, vs, m1, q1, rr1⟩ := S.list e1
        obtain ⟨c, ws, m2, q2, rr2⟩ := S.list e2
        obtain ⟨a', m1', rfl⟩ := d_ref r1
        obtain ⟨c', m2', rfl⟩ := d_ref r2
        rw [m1] at m1'; cases m1'
        rw [m2] at m2'; cases m2'
        cases rx; cases ry
        obtain ⟨its, w1, ⟨o1, n1, g1, c1, _, d1⟩, _⟩ := I.list q1
        obtain ⟨its2, w2, ⟨o2, n2, g2, c2, _, d2⟩, _⟩ := I.list q2
        have l1 : xs.length = its.length := rr1.length.trans w1.length
        have l2 : ys.length = its2.length := rr2.length.trans w2.length
        have hs : (its.toArray.size != its2.toArray.size) = true := by
          rw [List.size_toArray, List.size_toArray, bne_iff_ne]
          omega
        exact ⟨SeqAt.RcAt.lists_lengths ⟨o1, g1, c1, n1, d1⟩ ⟨o2, g2, c2, n2, d2⟩ hs hu, SeqAt.RcNeAt.lists_lengths ⟨o1, g1, c1, n1, d1⟩ ⟨o2, g2, c2, n2, d2⟩ hs hu⟩
      · cases e
    · cases e
  · cases e
def rLen (neg : Bool) (K : PySem.W.Frag) : R2 := fun x y H Q => ∃ μ ah dx dy b, Sim K μ H ah ∧ Rep K μ H dx x ∧ Rep K μ H dy y ∧ eqLen ah dx dy = some b ∧ Q (.bl (if neg = true then !b else b)) H
theorem op_eqLen (hu : X.A.units + 64 < cLine) : OpR X (compareOp .Eq) (rLen false X.K) := by
  intro pins s σ H x y v u Q I rx ry ⟨μ, ah, dx, dy, b, S, r1, r2, e, q⟩
  exact (eqLen_at I S r1 r2 rx ry e (by omega)).1 _ _ _ _ ⟨.bl b, H, I, rfl, q⟩
theorem op_neLen (hu : X.A.units + 64 < cLine) : OpR X (compareOp .NotEq) (rLen true X.K) := by
  intro pins s σ H x y v u Q I rx ry ⟨μ, ah, dx, dy, b, S, r1, r2, e, q⟩
  exact (eqLen_at I S r1 r2 rx ry e (by omega)).2 _ _ _ _ ⟨.bl (!b), H, I, rfl, q⟩
theorem od_eq (hr : Rm k X.A) : OpD X RBV (compareOp .Eq) cEq := fun Wx => by
  refine OpR.imp ((op_eq.or (op_eqS hr.u64)).or (op_eqLen hr.u64)) fun x y H Q ⟨μ, ah, dx, dy, S, rx, ry, hp⟩ => ?_
  unfold cEq at hp
  split at hp
  · rw [d_int rx, d_int ry]; exact .inl (.inl (rEq_scal rfl (by simp) hp S))
  · rw [d_str rx, d_str ry]; exact .inl (.inl (rEq_scal rfl (by simp) hp S))
  · rw [d_bl rx, d_bl ry]; exact .inl (.inl (rEq_scal rfl (by simp) hp S))
  · split at hp
    · rename_i b e
      exact .inl (.inr ⟨μ, ah, dx, dy, b, S, rx, ry, e, hp.ok1 S rfl⟩)
    · split at hp
      · rename_i b e
        exact .inr ⟨μ, ah, dx, dy, b, S, rx, ry, e, hp.ok1 S rfl⟩
      · exact hp.elim
theorem od_ne (hr : Rm k X.A) : OpD X RBV (compareOp .NotEq) cNe := fun Wx => by
  refine OpR.imp ((op_ne.or (op_neS hr.u64)).or (op_neLen hr.u64)) fun x y H Q ⟨μ, ah, dx, dy, S, rx, ry, hp⟩ => ?_
  unfold cNe cEq at hp
  split at hp
  · rw [d_int rx, d_int ry]; exact .inl (.inl ⟨rfl, Post.ok1 (R := RBV) hp S (by show _ = _; simp)⟩)
  · rw [d_str rx, d_str ry]; exact .inl (.inl ⟨rfl, Post.ok1 (R := RBV) hp S (by show _ = _; simp)⟩)
  · rw [d_bl rx, d_bl ry]; exact .inl (.inl ⟨rfl, Post.ok1 (R := RBV) hp S (by show _ = _; simp)⟩)
  · split at hp
    · rename_i b e
      exact .inl (.inr ⟨μ, ah, dx, dy, b, S, rx, ry, e, Post.ok1 (R := RBV) hp S rfl⟩)
    · split at hp
      · rename_i b e
        exact .inr ⟨μ, ah, dx, dy, b, S, rx, ry, e, Post.ok1 (R := RBV) hp S rfl⟩
      · exact hp.elim

/-! ### order -/
def cLt : D → D → AH → Res Bool
  | .int i, .int j, ah => .ok (decide (i < j)) ah
  | .str a, .str b, ah => .ok (decide (a.cps.toList < b.cps.toList)) ah
  | _, _, _ => .stuck
def cLe : D → D → AH → Res Bool
  | .int i, .int j, ah => .ok (decide (i ≤ j)) ah
  | _, _, _ => .stuck
def cGt : D → D → AH → Res Bool
  | .int i, .int j, ah => .ok (decide (j < i)) ah
  | _, _, _ => .stuck
def cGe : D → D → AH → Res Bool
  | .int i, .int j, ah => .ok (decide (j ≤ i)) ah
  | _, _, _ => .stuck
theorem od_lt : OpD X RBV (compareOp .Lt) cLt := fun Wx => by
  refine OpR.imp (op_lt.or op_lt_str) fun x y H Q ⟨μ, ah, dx, dy, S, rx, ry, hp⟩ => ?_
  unfold cLt at hp
  split at hp
  · rw [d_int rx, d_int ry]; exact .inl ⟨_, _, rfl, rfl, hp.ok1 S rfl⟩
  · rw [d_str rx, d_str ry]; exact .inr ⟨_, _, rfl, rfl, hp.ok1 S rfl⟩
  · exact hp.elim
theorem od_le : OpD X RBV (compareOp .LtE) cLe := fun Wx => by
  refine OpR.imp op_le fun x y H Q ⟨μ, ah, dx, dy, S, rx, ry, hp⟩ => ?_
  unfold cLe at hp
  split at hp
  · rw [d_int rx, d_int ry]; exact ⟨_, _, rfl, rfl, hp.ok1 S rfl⟩
  · exact hp.elim
theorem od_gt : OpD X RBV (compareOp .Gt) cGt := fun Wx => by
  refine OpR.imp op_gt fun x y H Q ⟨μ, ah, dx, dy, S, rx, ry, hp⟩ => ?_
  unfold cGt at hp
  split at hp
  · rw [d_int rx, d_int ry]; exact ⟨_, _, rfl, rfl, hp.ok1 S rfl⟩
  · exact hp.elim
theorem od_ge : OpD X RBV (compareOp .GtE) cGe := fun Wx => by
  refine OpR.imp op_ge fun x y H Q ⟨μ, ah, dx, dy, S, rx, ry, hp⟩ => ?_
  unfold cGe at hp
  split at hp
  · rw [d_int rx, d_int ry]; exact ⟨_, _, rfl, rfl, hp.ok1 S rfl⟩
  · exact hp.elim

/-! ### in -/
def strIn (x y : Str) : Bool := !(Builtin.Str.occurrences y x 0 y.length 1).isEmpty
def dKey : D → Option Key
  | .int i => some (.inl i)
  | .str x => some (.inr x)
  | _ => none
def inData (ah : AH) (x : D) (ds : List D) : Option Bool := match pd ah x, optAll (toP ah 62) ds with
  | some p, some ps => if SeqAt.shaped p = true ∧ PyData.canLayAll0 ps = true then some (ps.any fun z => PyData.eqv z p) else none
  | _, _ => none
def cIn : D → D → AH → Res Bool
  | .str a, .str b, ah => .ok (strIn a b) ah
  | x, .tup ds, ah => match inData ah x ds with
    | some b => .ok b ah
    | none => .stuck
  | x, .ref n, ah => match ah[n]? with
    | some (.dK kvs) => match dKey x with
      | some k => .ok (kvs.any fun kv => decide (kv.1 = k)) ah
      | none => .stuck
    | some (.lst ds) => match inData ah x ds with
      | some b => .ok b ah
      | none => .stuck
    | _ => .stuck
  | _, _, _ => .stuck
def cNotIn (x y : D) (ah : AH) : Res Bool := (cIn x y ah).bind fun b ah => .ok (!b) ah
/-- what in asks, by data -/
def inAsk (neg : Bool) (K : PySem.W.Frag) : R2 := fun x y H Q => ∃ μ ah dx dy ds b, Sim K μ H ah ∧ Rep K μ H dx x ∧ Rep K μ H dy y ∧ (dy = .tup ds ∨ ∃ n, dy = .ref n ∧ ah[n]? = some (.lst ds)) ∧ inData ah dx ds = some b ∧ Q (.bl (if neg then !b else b)) H
theorem inData_sr {pins : List (Addr × Obj)} {σ : L2.St} {H : Hp} {s : Shared} {μ : List Addr} {ah : AH} {dx dy : D} {ds : List D} {x y : V} {v u : Value} {b : Bool} (I : Inv X pins σ H s) (S : Sim X.K μ H ah) (r1 : Rep X.K μ H dx x) (r2 : Rep X.K μ H dy y)
    (rx : RelV x v) (ry : RelV y u) (hd : dy = .tup ds ∨ ∃ n, dy = .ref n ∧ ah[n]? = some (.lst ds)) (e : inData ah dx ds = some b) :
    ∃ p ps as bs, Reads s.heap v p as ∧ (Reads s.heap u (.tuple ps) bs ∨ Reads s.heap u (.list ps) bs) ∧ SeqAt.shaped p = true ∧ PyData.canLayAll0 ps = true ∧ b = ps.any fun z => PyData.eqv z p := by
  unfold inData at e
  split at e
  · rename_i p ps e1 e2
    split at e
    · rename_i hs
      cases e
      obtain ⟨as, q1⟩ := (Inv.sr I S deep dx x v p e1 r1 rx).reads
      rcases hd with rfl | ⟨n, rfl, en⟩
      · obtain ⟨bs, q2⟩ := (Inv.sr I S deep (.tup ds) y u (.tuple ps) (by unfold deep toP; simp only [e2, Option.map_some]) r2 ry).reads
        exact ⟨p, ps, as, bs, q1, .inl q2, hs.1, hs.2, rfl⟩
      · obtain ⟨bs, q2⟩ := (Inv.sr I S deep (.ref n) y u (.list ps) (by unfold deep toP; simp only [en, e2, Option.map_some]) r2 ry).reads
        exact ⟨p, ps, as, bs, q1, .inr q2, hs.1, hs.2, rfl⟩
    · cases e
  · cases e
theorem op_inS (hu : X.A.units + 65 < cLine) : OpR X (compareOp .In) (inAsk false X.K) := by
  intro pins s σ H x y v u Q I rx ry ⟨μ, ah, dx, dy, ds, b, S, r1, r2, hd, e, q⟩
  obtain ⟨p, ps, as, bs, q1, q2, c1, c2, rfl⟩ := inData_sr I S r1 r2 rx ry hd e
  rcases q2 with q2 | q2
  · exact SeqAt.in_tuple_reads q2 q1 c2 (SeqAt.canLay_of_shaped c1) (room_in_shaped c1 hu) ⟨.bl _, H, I, rfl, q⟩
  · exact SeqAt.in_list_reads q2 q1 c2 (SeqAt.canLay_of_shaped c1) (room_in_shaped c1 hu) ⟨.bl _, H, I, rfl, q⟩
theorem op_notInS (hu : X.A.units + 65 < cLine) : OpR X (compareOp .NotIn) (inAsk true X.K) := by
  intro pins s σ H x y v u Q I rx ry ⟨μ, ah, dx, dy, ds, b, S, r1, r2, hd, e, q⟩
  obtain ⟨p, ps, as, bs, q1, q2, c1, c2, rfl⟩ := inData_sr I S r1 r2 rx ry hd e
  rcases q2 with q2 | q2
  · exact SeqAt.notIn_tuple_reads q2 q1 c2 (SeqAt.canLay_of_shaped c1) (room_in_shaped c1 hu) ⟨.bl _, H, I, rfl, q⟩
  · exact SeqAt.notIn_list_reads q2 q1 c2 (SeqAt.canLay_of_shaped c1) (room_in_shaped c1 hu) ⟨.bl _, H, I, rfl, q⟩
theorem dKey_v {K : PySem.W.Frag} {μ : List Addr} {H : Hp} {d : D} {v : V} {k : Key} (h : dKey d = some k) (r : Rep K μ H d v) : v = kV k := by
  cases d <;> simp only [dKey, Option.some.injEq] at h <;> first | (subst h; first | exact d_int r | exact d_str r) | cases h
theorem dK_any {kvs : List (Key × D)} {kws : List (Key × V)} (h : kvs.map (·.1) = kws.map (·.1)) (k : Key) : (kvs.any fun kv => decide (kv.1 = k)) = (valV kws k).isSome := by
  rw [← valV_any]
  have e1 : (kvs.any fun kv => decide (kv.1 = k)) = (kvs.map (·.1)).any fun x => decide (x = k) := by rw [List.any_map]; rfl
  have e2 : (kws.any fun kv => decide (kv.1 = k)) = (kws.map (·.1)).any fun x => decide (x = k) := by rw [List.any_map]; rfl
  rw [e1, e2, h]
theorem op_inDict (hu : X.A.units + 1 < cLine) : OpR X (compareOp .In) (fun x y H Q => ∃ a kvs k, y = .ref a ∧ H a = some (.dK kvs) ∧ x = kV k ∧ Q (.bl (valV kvs k).isSome) H) := by
  intro pins s σ H x y v u Q I rx ry hx
  obtain ⟨a, kvs, k, rfl, e, rfl, q⟩ := hx
  cases ry
  exact d_in hu I (DGet.k e) rx fun s' I' => ⟨.bl _, H, I', rfl, q⟩
theorem op_notInDict (hu : X.A.units + 1 < cLine) : OpR X (compareOp .NotIn) (fun x y H Q => ∃ a kvs k, y = .ref a ∧ H a = some (.dK kvs) ∧ x = kV k ∧ Q (.bl (!(valV kvs k).isSome)) H) := by
  intro pins s σ H x y v u Q I rx ry hx
  obtain ⟨a, kvs, k, rfl, e, rfl, q⟩ := hx
  cases ry
  exact d_notIn hu I (DGet.k e) rx fun s' I' => ⟨.bl _, H, I', rfl, q⟩
theorem od_in (hr : Rm k X.A) : OpD X RBV (compareOp .In) cIn := fun Wx => by
  refine OpR.imp (op_in_str.or ((op_inS hr.u65).or (op_inDict hr.u1))) fun x y H Q ⟨μ, ah, dx, dy, S, rx, ry, hp⟩ => ?_
  unfold cIn at hp
  split at hp
  · rw [d_str rx, d_str ry]; exact .inl ⟨_, _, rfl, rfl, hp.ok1 S rfl⟩
  · split at hp
    · rename_i b e
      exact .inr (.inl ⟨μ, ah, dx, _, _, b, S, rx, ry, .inl rfl, e, hp.ok1 S rfl⟩)
    · exact hp.elim
  · split at hp
    · rename_i kvs e
      split at hp
      · rename_i kk ek
        obtain ⟨a, ea, rfl⟩ := d_ref ry
        obtain ⟨kws, e0, e1, _⟩ := S.ok _ a _ ea e
        refine .inr (.inr ⟨a, kws, kk, rfl, e0, dKey_v ek rx, hp.ok1 S ?_⟩)
        rw [dK_any e1]; rfl
      · exact hp.elim
    · rename_i ds e
      split at hp
      · rename_i b e'
        exact .inr (.inl ⟨μ, ah, dx, _, _, b, S, rx, ry, .inr ⟨_, rfl, e⟩, e', hp.ok1 S rfl⟩)
      · exact hp.elim
    · exact hp.elim
  · exact hp.elim
theorem od_notIn (hr : Rm k X.A) : OpD X RBV (compareOp .NotIn) cNotIn := fun Wx => by
  refine OpR.imp (op_notIn_str.or ((op_notInS hr.u65).or (op_notInDict hr.u1))) fun x y H Q ⟨μ, ah, dx, dy, S, rx, ry, hp⟩ => ?_
  unfold cNotIn cIn at hp
  split at hp
  · rw [d_str rx, d_str ry]; exact .inl ⟨_, _, rfl, rfl, Post.ok1 (R := RBV) hp S rfl⟩
  · split at hp
    · rename_i b e
      exact .inr (.inl ⟨μ, ah, dx, _, _, b, S, rx, ry, .inl rfl, e, Post.ok1 (R := RBV) hp S rfl⟩)
    · exact hp.elim
  · split at hp
    · rename_i kvs e
      split at hp
      · rename_i kk ek
        obtain ⟨a, ea, rfl⟩ := d_ref ry
        obtain ⟨kws, e0, e1, _⟩ := S.ok _ a _ ea e
        refine .inr (.inr ⟨a, kws, kk, rfl, e0, dKey_v ek rx, Post.ok1 (R := RBV) hp S ?_⟩)
        show _ = _
        rw [dK_any e1]
      · exact hp.elim
    · rename_i ds e
      split at hp
      · rename_i b e'
        exact .inr (.inl ⟨μ, ah, dx, _, _, b, S, rx, ry, .inr ⟨_, rfl, e⟩, e', Post.ok1 (R := RBV) hp S rfl⟩)
      · exact hp.elim
    · exact hp.elim
  · exact hp.elim

/-! ### is -/
def D.isNon : D → Bool
  | .non => true
  | .cst w => decide (w = .non)
  | _ => false
def cIs : D → D → AH → Res Bool
  | .bl a, .bl b, ah => .ok (decide (a = b)) ah
  | x, .non, ah => .ok x.isNon ah
  | _, _, _ => .stuck
def cIsNot (x y : D) (ah : AH) : Res Bool := (cIs x y ah).bind fun b ah => .ok (!b) ah
theorem non_iff {K : PySem.W.Frag} {μ : List Addr} {H : Hp} {d : D} {v : V} (r : Rep K μ H d v) : decide (v = .non) = d.isNon := by
  cases d with
  | non => rw [d_non r]; rfl
  | bl b => rw [d_bl r]; rfl
  | int b => rw [d_int r]; rfl
  | str b => rw [d_str r]; rfl
  | tup ds => obtain ⟨a, vs, rfl, _⟩ := d_tup r; rfl
  | ref n => obtain ⟨a, _, rfl⟩ := d_ref r; rfl
  | cst w =>
    have e : v = w := by simpa only [Rep] using r
    rw [e]; rfl
theorem od_is : OpD X RBV (compareOp .Is) cIs := fun Wx => by
  refine OpR.imp (op_isBl.or op_isN) fun x y H Q ⟨μ, ah, dx, dy, S, rx, ry, hp⟩ => ?_
  unfold cIs at hp
  split at hp
  · rw [d_bl rx, d_bl ry]; exact .inl ⟨_, _, rfl, rfl, hp.ok1 S rfl⟩
  · rw [d_non ry]; exact .inr ⟨rfl, hp.ok1 S (by show _ = _; rw [non_iff rx])⟩
  · exact hp.elim
theorem od_isNot : OpD X RBV (compareOp .IsNot) cIsNot := fun Wx => by
  refine OpR.imp (op_notBl.or op_notN) fun x y H Q ⟨μ, ah, dx, dy, S, rx, ry, hp⟩ => ?_
  unfold cIsNot cIs at hp
  split at hp
  · rw [d_bl rx, d_bl ry]; exact .inl ⟨_, _, rfl, rfl, Post.ok1 (R := RBV) hp S rfl⟩
  · rw [d_non ry]; exact .inr ⟨rfl, Post.ok1 (R := RBV) hp S (by show _ = _; rw [non_iff rx])⟩
  · exact hp.elim

/-! ### truth -/
def truth (d : D) (ah : AH) : Res Bool := match d with
  | .non => .ok false ah
  | .bl b => .ok b ah
  | .int i => .ok (i != 0) ah
  | .str x => if x.length ≤ line then .ok ((x.length : Int) != 0) ah else .stuck
  | .tup ds => .ok (!ds.isEmpty) ah
  | .ref n => match ah[n]? with
    | some (.lst ds) => .ok (!ds.isEmpty) ah
    | some (.ro ds) => .ok (!ds.isEmpty) ah
    | some (.dK kvs) => .ok (!kvs.isEmpty) ah
    | _ => .stuck
  | .cst _ => .stuck
theorem isEmpty_len {α β : Type} {a : List α} {b : List β} (h : a.length = b.length) : a.isEmpty = b.isEmpty := by
  cases a <;> cases b <;> simp_all
theorem truth_v {K : PySem.W.Frag} {Wx : Value → Option Addr → Hp → Prop} {μ : List Addr} {H : Hp} {Q : Bool → Hp → Prop} {d : D} {v : V} {ah : AH} (S : Sim K μ H ah) (r : Rep K μ H d v) (hp : Post K RB Wx μ H Q (truth d ah)) : ∃ k, TruV K v H k ∧ Q k H := by
  cases d with
  | non => rw [d_non r]; exact ⟨_, rfl, hp.ok1 S rfl⟩
  | bl b => rw [d_bl r]; exact ⟨_, rfl, hp.ok1 S rfl⟩
  | int i => rw [d_int r]; exact ⟨_, rfl, hp.ok1 S rfl⟩
  | str x =>
    rw [d_str r]
    unfold truth at hp
    dsimp only at hp
    split at hp
    · rename_i hl
      exact ⟨_, ⟨line_le hl, rfl⟩, hp.ok1 S rfl⟩
    · exact hp.elim
  | tup ds =>
    obtain ⟨a, vs, rfl, q, r2⟩ := d_tup r
    exact ⟨_, .inr (.inl ⟨vs, q, by rw [isEmpty_len r2.length]⟩), hp.ok1 S rfl⟩
  | ref n =>
    obtain ⟨a, ea, rfl⟩ := d_ref r
    unfold truth at hp
    dsimp only at hp
    split at hp
    · rename_i ds e
      obtain ⟨b, vs, eb, q, r2⟩ := S.list (show listAt ah n = some ds by unfold listAt; rw [e])
      rw [ea] at eb; cases eb
      exact ⟨_, .inl ⟨vs, q, by rw [isEmpty_len r2.length]⟩, hp.ok1 S rfl⟩
    · rename_i ds e
      obtain ⟨b, vs, eb, q, r2⟩ := S.list (show listAt ah n = some ds by unfold listAt; rw [e])
      rw [ea] at eb; cases eb
      exact ⟨_, .inl ⟨vs, q, by rw [isEmpty_len r2.length]⟩, hp.ok1 S rfl⟩
    · rename_i kvs e
      obtain ⟨kws, e0, e1, _⟩ := S.ok n a _ ea e
      exact ⟨_, .inr (.inr ⟨kws, e0, by rw [isEmpty_len (by simpa using congrArg List.length e1)]⟩), hp.ok1 S rfl⟩
    · exact hp.elim
  | cst w => exact hp.elim
/-- an expression's truth as a test -/
theorem pb_val {e : Expr} {m : EM D} (h : PD X W e m) (he : ∀ whole, isTrue e X.env whole = (do let v ← whole; standAt e.pos; holding [v] (truthy v)) := by intro _; rfl) : PB X W e (e1 m truth) := by
  refine PT.weak (pt_truth h he) fun σ H Q ⟨μ, env, ah, he, hs, hp⟩ => ?_
  exact ⟨μ, env, ah, he, hs, hp.bind fun d ah1 μ1 x H1 e1 s1 r1 p1 => truth_v s1 r1 p1⟩

/-! ### and, or, not -/
def bAnd (a b : EM Bool) : EM Bool := fun env ah => (a env ah).bind fun x ah1 => if x = true then b env ah1 else .ok false ah1
def bOr (a b : EM Bool) : EM Bool := fun env ah => (a env ah).bind fun x ah1 => if x = true then .ok true ah1 else b env ah1
def bNot (a : EM Bool) : EM Bool := fun env ah => (a env ah).bind fun x ah1 => .ok (!x) ah1
variable {a b : Expr} {rest : List Expr} {ma mb : EM Bool} {pos : Pos}
theorem pbw_and1 (ha : PB X W a ma) : PBw X W (.BoolOp .And [a] pos) ma := pw_and1 ha
theorem pbw_or1 (ha : PB X W a ma) : PBw X W (.BoolOp .Or [a] pos) ma := pw_or1 ha
theorem pbw_and (ha : PB X W a ma) (hb : PBw X W (.BoolOp .And (b :: rest) pos) mb) : PBw X W (.BoolOp .And (a :: b :: rest) pos) (bAnd ma mb) := by
  refine PW.weak (pw_and ha hb) fun σ H Q ⟨μ, env, ah, he, hs, hp⟩ => ?_
  refine ⟨μ, env, ah, he, hs, hp.bind fun d ah1 μ1 x H1 e1 s1 r1 p1 => ?_⟩
  cases (show d = x from r1)
  cases d with
  | true => exact tG_next he e1 s1 p1
  | false => exact Post.ok1 (R := RB) p1 s1 rfl
theorem pbw_or (ha : PB X W a ma) (hb : PBw X W (.BoolOp .Or (b :: rest) pos) mb) : PBw X W (.BoolOp .Or (a :: b :: rest) pos) (bOr ma mb) := by
  refine PW.weak (pw_or ha hb) fun σ H Q ⟨μ, env, ah, he, hs, hp⟩ => ?_
  refine ⟨μ, env, ah, he, hs, hp.bind fun d ah1 μ1 x H1 e1 s1 r1 p1 => ?_⟩
  cases (show d = x from r1)
  cases d with
  | true => exact Post.ok1 (R := RB) p1 s1 rfl
  | false => exact tG_next he e1 s1 p1
theorem pbw {e : Expr} {m : EM Bool} (h : PBw X W e m) : PB X W e m := PW.pt h
theorem pb_not (ha : PB X W a ma) : PB X W (.UnaryOp .Not a pos) (bNot ma) := by
  refine PT.weak (pt_not ha) fun σ H Q ⟨μ, env, ah, he, hs, hp⟩ => ?_
  refine ⟨μ, env, ah, he, hs, hp.bind fun d ah1 μ1 x H1 e1 s1 r1 p1 => ?_⟩
  cases (show d = x from r1)
  exact Post.ok1 (R := RB) p1 s1 rfl
/-- .. as values -/
def eAnd (a : EM D) (b : EM D) : EM D := fun env ah => (a env ah).bind fun x ah1 => (truth x ah1).bind fun k ah2 => if k = true then b env ah2 else .ok x ah2
def eOr (a : EM D) (b : EM D) : EM D := fun env ah => (a env ah).bind fun x ah1 => (truth x ah1).bind fun k ah2 => if k = true then .ok x ah2 else b env ah2
def eNot (a : EM D) : EM D := fun env ah => (a env ah).bind fun x ah1 => (truth x ah1).bind fun k ah2 => .ok (.bl (!k)) ah2
variable {na nb : EM D}
/-- truth's own change of the state: none -/
theorem truth_same {d : D} {ah : AH} : (∃ k, truth d ah = .ok k ah) ∨ truth d ah = .stuck := by
  unfold truth
  split <;> first | exact .inl ⟨_, rfl⟩ | exact .inr rfl | skip
  · split <;> first | exact .inl ⟨_, rfl⟩ | exact .inr rfl
  · split <;> first | exact .inl ⟨_, rfl⟩ | exact .inr rfl
theorem truth_tru {K : PySem.W.Frag} {μ : List Addr} {H : Hp} {d : D} {v : V} {ah : AH} {k : Bool} (S : Sim K μ H ah) (r : Rep K μ H d v) (e : truth d ah = .ok k ah) : TruV K v H k := by
  have h : Post K RB (fun _ _ _ => False) μ H (fun c H' => c = k ∧ True) (truth d ah) := by
    rw [e]
    exact fun μ' x H' _ _ r => ⟨(show k = x from r).symm, trivial⟩
  obtain ⟨c, t, q, _⟩ := truth_v S r h
  rw [← q]; exact t
theorem pd_one {op} {m : EM D} (h : PD X W a m) : PD X W (.BoolOp op [a] pos) m := pe_one h
theorem pd_and (ha : PD X W a na) (hb : PD X W (.BoolOp .And (b :: rest) pos) nb) : PD X W (.BoolOp .And (a :: b :: rest) pos) (eAnd na nb) := by
  refine PE.weak (pe_andT ha hb) fun σ H Q ⟨μ, env, ah, he, hs, hp⟩ => ?_
  refine ⟨μ, env, ah, he, hs, hp.bind fun d ah1 μ1 x H1 e1 s1 r1 p1 => ?_⟩
  rcases truth_same (d := d) (ah := ah1) with ⟨k, e⟩ | e
  · rw [e] at p1
    refine ⟨k, truth_tru s1 r1 e, ?_⟩
    cases k with
    | true => exact tG_next he e1 s1 p1
    | false => exact Post.ok1 (R := RD X.K) p1 s1 r1
  · rw [e] at p1; exact p1.elim
theorem pd_or (ha : PD X W a na) (hb : PD X W (.BoolOp .Or (b :: rest) pos) nb) : PD X W (.BoolOp .Or (a :: b :: rest) pos) (eOr na nb) := by
  refine PE.weak (pe_orT ha hb) fun σ H Q ⟨μ, env, ah, he, hs, hp⟩ => ?_
  refine ⟨μ, env, ah, he, hs, hp.bind fun d ah1 μ1 x H1 e1 s1 r1 p1 => ?_⟩
  rcases truth_same (d := d) (ah := ah1) with ⟨k, e⟩ | e
  · rw [e] at p1
    refine ⟨k, truth_tru s1 r1 e, ?_⟩
    cases k with
    | true => exact Post.ok1 (R := RD X.K) p1 s1 r1
    | false => exact tG_next he e1 s1 p1
  · rw [e] at p1; exact p1.elim
theorem pd_not (ha : PD X W a na) : PD X W (.UnaryOp .Not a pos) (eNot na) := by
  refine PE.weak (pe_notT ha) fun σ H Q ⟨μ, env, ah, he, hs, hp⟩ => ?_
  refine ⟨μ, env, ah, he, hs, hp.bind fun d ah1 μ1 x H1 e1 s1 r1 p1 => ?_⟩
  rcases truth_same (d := d) (ah := ah1) with ⟨k, e⟩ | e
  · rw [e] at p1
    exact ⟨k, truth_tru s1 r1 e, Post.ok1 (R := RD X.K) p1 s1 r_bl⟩
  · rw [e] at p1; exact p1.elim
/-- a if t else b -/
def eIf {α : Type} (c : EM Bool) (a b : EM α) : EM α := fun env ah => (c env ah).bind fun x ah1 => if x = true then a env ah1 else b env ah1
theorem pd_if {c : Expr} {mc : EM Bool} (hc : PB X W c mc) (ha : PD X W a na) (hb : PD X W b nb) : PD X W (.IfExp c a b pos) (eIf mc na nb) := by
  refine PE.weak (pe_ifExp hc ha hb) fun σ H Q ⟨μ, env, ah, he, hs, hp⟩ => ?_
  refine ⟨μ, env, ah, he, hs, hp.bind fun d ah1 μ1 x H1 e1 s1 r1 p1 => ?_⟩
  cases (show d = x from r1)
  cases d with
  | true => exact tG_next he e1 s1 p1
  | false => exact tG_next he e1 s1 p1
/-- -i -/
def oNeg : D → AH → Res D
  | .int i, ah => .ok (.int (-i)) ah
  | _, _ => .stuck
theorem pd_neg (ha : PD X W a na) : PD X W (.UnaryOp .USub a pos) (e1 na oNeg) := by
  refine PE.weak (pe_un un_neg ha) fun σ H Q ⟨μ, env, ah, he, hs, hp⟩ => ?_
  refine ⟨μ, env, ah, he, hs, hp.bind fun d ah1 μ1 x H1 e1 s1 r1 p1 => ?_⟩
  cases d with
  | int i =>
    have q : Rep X.K μ1 H1 (.int i) x := r1
    rw [d_int q]; exact ⟨i, rfl, Post.ok1 (R := RD X.K) p1 s1 r_int⟩
  | _ => exact p1.elim

/-! ### arguments, displays -/
def aNil : EM (List D) := fun _ ah => .ok [] ah
def aCons (m : EM D) (r : EM (List D)) : EM (List D) := fun env ah => (m env ah).bind fun x ah1 => (r env ah1).bind fun xs ah2 => .ok (x :: xs) ah2
variable {e : Expr} {es : List Expr} {me : EM D} {mes : EM (List D)}
theorem pas_nil : PAs X W [] aNil := PA.weak pa_nil fun σ H Q ⟨μ, env, ah, he, hs, hp⟩ => Post.ok1 (R := RA X.K) hp hs (show Reps X.K μ H [] [] from Reps.nil)
theorem Post.cons {K : PySem.W.Frag} {Wx : Value → Option Addr → Hp → Prop} {μ : List Addr} {H : Hp} {x : V} {d : D} {Q : List V → Hp → Prop} {r : Res (List D)} (rx : Rep K μ H d x) (h : Post K (RA K) Wx μ H Q (r.bind fun xs ah2 => .ok (d :: xs) ah2)) : Post K (RA K) Wx μ H (fun xs H' => Q (x :: xs) H') r := by
  cases r with
  | ok ds ah => exact fun μ' xs H' e s rr => h μ' (x :: xs) H' e s (Reps.cons (rx.ext e) rr)
  | exn c fs ah => exact h
  | stuck => exact h
theorem pas_cons (ha : PD X W e me) (hr : PAs X W es mes) (hs : starEach (e :: es) X.env = (false, eval e X.env) :: starEach es X.env := by rfl) : PAs X W (e :: es) (aCons me mes) := by
  refine PA.weak (pa_cons ha hr hs) fun σ H Q ⟨μ, env, ah, he, hs, hp⟩ => ?_
  refine ⟨μ, env, ah, he, hs, hp.bind fun d ah1 μ1 x H1 e1 s1 r1 p1 => ?_⟩
  exact tG_next he e1 s1 (Post.cons r1 p1)
def eTup (m : EM (List D)) : EM D := e1 m fun ds ah => if ds.length ≤ line then .ok (.tup ds) ah else .stuck
theorem pd_tup {x1} (h : PAs X W es mes) : PD X W (.Tuple es x1 pos) (eTup mes) := by
  refine PE.weak (pe_tup h) fun σ H Q ⟨μ, env, ah, he, hs, hp⟩ => ?_
  refine ⟨μ, env, ah, he, hs, hp.bind fun ds ah1 μ1 vs H1 e1 s1 r1 p1 => ?_⟩
  have r : Reps X.K μ1 H1 ds vs := r1
  dsimp only at p1
  split at p1
  · rename_i hl
    exact ⟨line_le (by rw [← r.length]; exact hl), fun p hp => p1.newT s1 r hp⟩
  · exact p1.elim
def lLst (m : EM (List D)) : EM (List D) := e1 m fun ds ah => if ds.length ≤ line then .ok ds ah else .stuck
end
end HA

/-! HA6: lists and sequences by their items; subscripts, slices; built-ins by name; methods. -/
namespace HA
open PySem PySem.Spec PyProof.Rows L2

theorem Sim.adopt {K : PySem.W.Frag} {μ : List Addr} {H : Hp} {ah : AH} (S : Sim K μ H ah) {a : Addr} {o : AObj} (hr : o.isRo = false) (ha : a ∉ μ.tail) (h : OOk K (μ ++ [a]) H a o) : Sim K (μ ++ [a]) H (ah ++ [o]) := by
  have key : ∀ (n : Nat) (b : Addr) (q : AObj), (μ ++ [a])[n]? = some b → (ah ++ [o])[n]? = some q → (μ[n]? = some b ∧ ah[n]? = some q) ∨ (n = ah.length ∧ b = a ∧ q = o) := fun n b q e1 e2 => by
    by_cases hn : n < ah.length
    · rw [List.getElem?_append_left (by rw [S.len]; exact hn)] at e1
      rw [List.getElem?_append_left hn] at e2
      exact .inl ⟨e1, e2⟩
    · have hn' : n < (ah ++ [o]).length := (List.getElem?_eq_some_iff.mp e2).1
      have : n = ah.length := by simp at hn'; omega
      subst this
      rw [List.getElem?_append_right (by rw [S.len]; omega)] at e1
      rw [List.getElem?_append_right (Nat.le_refl _)] at e2
      rw [S.len] at e1
      simp at e1 e2
      exact .inr ⟨rfl, e1.symm, e2.symm⟩
  have tl : ∀ (n : Nat) (q : AObj), μ[n]? = some a → ah[n]? = some q → q.isRo = false → False := fun n q e1 e2 r => by
    have hn : n ≠ 0 := fun z => by
      have := (S.ro0 n q e2).mpr z
      rw [r] at this; cases this
    obtain ⟨k, rfl⟩ : ∃ k, n = k + 1 := ⟨n - 1, by omega⟩
    exact ha (List.mem_of_getElem? (i := k) (by rw [List.getElem?_tail]; exact e1))
  refine ⟨by simp [S.len], fun n m b q q' e1 e2 e3 e4 r1 r2 => ?_, fun n b q e1 e2 => ?_, by simp, fun n q e => ?_⟩
  · rcases key n b q e1 e3 with ⟨x1, x2⟩ | ⟨x1, x2, x3⟩
    · rcases key m b q' e2 e4 with ⟨y1, y2⟩ | ⟨y1, y2, y3⟩
      · exact S.nd n m b q q' x1 y1 x2 y2 r1 r2
      · subst y2; exact (tl n q x1 x2 r1).elim
    · rcases key m b q' e2 e4 with ⟨y1, y2⟩ | ⟨y1, y2, y3⟩
      · subst x2; exact (tl m q' y1 y2 r2).elim
      · rw [x1, y1]
  · rcases key n b q e1 e2 with ⟨x1, x2⟩ | ⟨x1, x2, x3⟩
    · exact (S.ok n b q x1 x2).mono (List.prefix_append _ _) TExt.refl (fun _ => rfl) fun _ _ z => z
    · rw [x2, x3]; exact h
  · by_cases hn : n < ah.length
    · rw [List.getElem?_append_left hn] at e
      exact S.ro0 n q e
    · have hn' : n < (ah ++ [o]).length := (List.getElem?_eq_some_iff.mp e).1
      have : n = ah.length := by simp at hn'; omega
      subst this
      rw [List.getElem?_append_right (Nat.le_refl _)] at e
      simp at e
      subst e
      have := S.pos
      constructor
      · intro z; rw [hr] at z; cases z
      · intro z; omega
/-- something new of the beginning becomes ours -/
theorem Ext.adopt {K : PySem.W.Frag} {μ μ1 : List Addr} {H H1 : Hp} {a : Addr} (e : Ext K μ H μ1 H1) (h0 : H a = none) (hp : 0 < μ1.length) : Ext K μ H (μ1 ++ [a]) H1 :=
  ⟨e.pre.trans (List.prefix_append _ _), e.tup, fun b hb => by
    rw [List.tail_append_of_ne_nil (by intro z; rw [z] at hp; exact absurd hp (by decide))] at hb
    rcases List.mem_append.mp hb with z | z
    · exact e.new b z
    · simp at z; rw [z]; exact .inr h0, e.keep, e.there⟩
theorem Sim.mpos {K : PySem.W.Frag} {μ : List Addr} {H : Hp} {ah : AH} (S : Sim K μ H ah) : 0 < μ.length := by rw [S.len]; exact S.pos

/-- lists alone, by items -/
def RM (K : PySem.W.Frag) : Rel (List D) V := ⟨fun _ μ H ds v => ∃ a vs, v = .ref a ∧ SqL K H a vs ∧ Reps K μ H ds vs, fun _ h => h⟩
def PM (X : Cx) (W : WX) (e : Expr) (m : EM (List D)) : Prop := PE X e (tG X.K (RM X.K) W m)
section
variable {X : Cx} {W : WX} {k : Nat} {e : Expr} {es : List Expr} {m : EM D} {ml : EM (List D)} {pos : Pos}
/-- a finer answer -/
theorem tG_rel {β γ : Type} {K : PySem.W.Frag} {R R' : Rel β γ} {mm : EM β} {σ : L2.St} {H : Hp} {Q : γ → Hp → Prop} (h : tG K R' W mm σ H Q) (k : ∀ H₀ μ H b c, R.r H₀ μ H b c → R'.r H₀ μ H b c) : tG K R W mm σ H Q := by
  obtain ⟨μ, env, ah, he, hs, hp⟩ := h
  refine ⟨μ, env, ah, he, hs, ?_⟩
  cases q : mm env ah with
  | ok d ah' => rw [q] at hp; exact fun μ' x H' e s r => hp μ' x H' e s (k _ _ _ _ _ r)
  | exn c fs ah' => rw [q] at hp; exact hp
  | stuck => rw [q] at hp; exact hp
theorem pm_l (h : PL X W e ml) : PM X W e ml := PE.weak h fun σ H Q q => tG_rel q fun _ _ _ _ _ ⟨a, vs, e, _, z, _, r⟩ => ⟨a, vs, e, SqL.of z, r⟩
theorem pq_m (h : PM X W e ml) : PQ X W e ml := PE.weak h fun σ H Q q => tG_rel q fun _ _ _ _ _ ⟨a, vs, e, z, r⟩ => ⟨a, vs, e, .inl z, r⟩
theorem pq_l (h : PL X W e ml) : PQ X W e ml := pq_m (pm_l h)
def listOf (d : D) (ah : AH) : Res (List D) := match d with
  | .ref n => match listAt ah n with
    | some ds => .ok ds ah
    | none => .stuck
  | _ => .stuck
def seqOf (d : D) (ah : AH) : Res (List D) := match d with
  | .tup ds => .ok ds ah
  | .ref n => match listAt ah n with
    | some ds => .ok ds ah
    | none => .stuck
  | _ => .stuck
theorem pm_d (h : PD X W e m) : PM X W e (e1 m listOf) := by
  refine PE.weak h fun σ H Q ⟨μ, env, ah, he, hs, hp⟩ => ?_
  refine ⟨μ, env, ah, he, hs, hp.bind fun d ah1 μ1 x H1 e1 s1 r1 p1 => ?_⟩
  cases d with
  | ref n =>
    obtain ⟨a, ea, rfl⟩ := d_ref (show Rep X.K μ1 H1 (.ref n) x from r1)
    unfold listOf at p1
    dsimp only at p1
    split at p1
    · rename_i ds e
      obtain ⟨b, vs, eb, q, r2⟩ := s1.list e
      rw [ea] at eb; cases eb
      exact Post.ok1 (R := RM X.K) p1 s1 ⟨a, vs, rfl, q, r2⟩
    · exact p1.elim
  | _ => exact p1.elim
theorem pq_d (h : PD X W e m) : PQ X W e (e1 m seqOf) := by
  refine PE.weak h fun σ H Q ⟨μ, env, ah, he, hs, hp⟩ => ?_
  refine ⟨μ, env, ah, he, hs, hp.bind fun d ah1 μ1 x H1 e1 s1 r1 p1 => ?_⟩
  cases d with
  | tup ds =>
    obtain ⟨a, vs, rfl, q, r2⟩ := d_tup (show Rep X.K μ1 H1 (.tup ds) x from r1)
    exact Post.ok1 (R := RQ X.K) p1 s1 ⟨a, vs, rfl, .inr q, r2⟩
  | ref n =>
    obtain ⟨a, ea, rfl⟩ := d_ref (show Rep X.K μ1 H1 (.ref n) x from r1)
    unfold seqOf at p1
    dsimp only at p1
    split at p1
    · rename_i ds e
      obtain ⟨b, vs, eb, q, r2⟩ := s1.list e
      rw [ea] at eb; cases eb
      exact Post.ok1 (R := RQ X.K) p1 s1 ⟨a, vs, rfl, .inl q, r2⟩
    · exact p1.elim
  | _ => exact p1.elim
/-- a new list becomes an object of ours -/
def eNew (m : EM (List D)) : EM D := e1 m fun ds ah => .ok (.ref ah.length) (ah ++ [.lst ds])
theorem pd_new (h : PL X W e ml) : PD X W e (eNew ml) := by
  refine PE.weak h fun σ H Q ⟨μ, env, ah, he, hs, hp⟩ => ?_
  refine ⟨μ, env, ah, he, hs, hp.bind0 fun ds ah1 μ1 x H1 e1 s1 r1 p1 => ?_⟩
  obtain ⟨a, vs, rfl, h0, ha, hm, r⟩ := r1
  refine p1 (μ1 ++ [a]) (.ref a) H1 (e1.adopt h0 s1.mpos) (s1.adopt rfl hm ⟨vs, ha, Reps.mono (List.prefix_append _ _) TExt.refl ds vs r⟩) ?_
  show Rep _ _ _ _ _
  simp only [Rep]
  exact ⟨a, by rw [← s1.len]; simp, rfl⟩
theorem pl_lst (h : PAs X W es ml) : PL X W (.List es pos) (lLst ml) := by
  refine PE.weak (pe_lst h) fun σ H Q ⟨μ, env, ah, he, hs, hp⟩ => ?_
  refine ⟨μ, env, ah, he, hs, hp.bind0 fun ds ah1 μ1 vs H1 e1 s1 r1 p1 => ?_⟩
  have r : Reps X.K μ1 H1 ds vs := r1
  dsimp only at p1
  split at p1
  · rename_i hl
    refine ⟨line_le (by rw [← r.length]; exact hl), fun p hp => ?_⟩
    exact p1 μ1 _ _ (e1.trans (Ext.other hp)) (s1.other hp) ⟨p, vs, rfl, e1.there p hp, upd_same, s1.free hp, r.ext (Ext.other hp)⟩
  · exact p1.elim

/-! ### a built-in by its name -/
def CallD (X : Cx) {γ : Type} (R : Rel γ V) (F : Value) (f : List D → AH → Res γ) : Prop := ∀ W, CallR X F (fun vs H Q => ∃ μ ah ds, Sim X.K μ H ah ∧ Reps X.K μ H ds vs ∧ Post X.K R W μ H Q (f ds ah))
theorem CallR.imp {F : Value} {r r' : List V → Hp → VK → Prop} (h : CallR X F r) (k : ∀ vs H Q, r' vs H Q → r vs H Q) : CallR X F r' := fun pins s σ H xs us Q I rv q => h pins s σ H xs us Q I rv (k xs H Q q)
theorem CallR.or {F : Value} {r r' : List V → Hp → VK → Prop} (h : CallR X F r) (h' : CallR X F r') : CallR X F (fun vs H Q => r vs H Q ∨ r' vs H Q) := fun pins s σ H xs us Q I rv q => q.elim (h pins s σ H xs us Q I rv) (h' pins s σ H xs us Q I rv)
theorem pe_callBσ {x : Str} {p : Pos} {id : String} {r : L2.St → List V → Hp → VK → Prop} {t : TA} (hc : ∀ σ, CallR X (.builtin id) (r σ)) (hg : Gl X x) (hm : X.mg x = none) (hv : bootBuiltins x = some (.builtin id)) (ha : PA X (e :: es) t) (hn : x ≠ "__name__" := by decide) (hdb : (x == ("__debug__" : Str)) = false := by decide)
    (he : starEach (e :: es) X.env = (false, eval e X.env) :: starEach es X.env := by rfl) (hpl : (backTo pos (starEach es X.env)).any (·.1) = false := by rfl) : PE X (.Call (.Name x p) (e :: es) [] pos) (fun σ H Q => tCB (r σ) t σ H Q) :=
  ⟨fun pins s σ H Q I h => (pe_callB (hc σ) hg hm hv ha hn hdb he hpl).run pins s σ H Q I h⟩
theorem pe_callTyσ {x : Str} {p : Pos} {T : String} {r : L2.St → List V → Hp → VK → Prop} {t : TA} (hc : ∀ σ, CallR X (.type T) (r σ)) (hg : Gl X x) (hm : X.mg x = none) (hv : bootBuiltins x = some (.type T)) (ha : PA X (e :: es) t) (hn : x ≠ "__name__" := by decide) (hdb : (x == ("__debug__" : Str)) = false := by decide)
    (he : starEach (e :: es) X.env = (false, eval e X.env) :: starEach es X.env := by rfl) (hpl : (backTo pos (starEach es X.env)).any (·.1) = false := by rfl) : PE X (.Call (.Name x p) (e :: es) [] pos) (fun σ H Q => tCB (r σ) t σ H Q) :=
  ⟨fun pins s σ H Q I h => (pe_callTy (hc σ) hg hm hv ha hn hdb he hpl).run pins s σ H Q I h⟩
theorem cb_step {γ : Type} {R : Rel γ V} {f : List D → AH → Res γ} {σ : L2.St} {H : Hp} {Q : VK} (h : tG X.K R W (e1 ml f) σ H Q) :
    tCB (fun vs H Q => ∃ μ ah ds, Sim X.K μ H ah ∧ Reps X.K μ H ds vs ∧ Post X.K R (fun c d H' => W c d σ H') μ H Q (f ds ah)) (tG X.K (RA X.K) W ml) σ H Q := by
  obtain ⟨μ, env, ah, he, hs, hp⟩ := h
  exact ⟨μ, env, ah, he, hs, hp.bind fun ds ah1 μ1 vs H1 e1 s1 r1 p1 => ⟨μ1, ah1, ds, s1, r1, p1⟩⟩
theorem pd_callB {x : Str} {p : Pos} {id : String} {f : List D → AH → Res D} (hc : CallD X (RD X.K) (.builtin id) f) (hg : Gl X x) (hm : X.mg x = none) (hv : bootBuiltins x = some (.builtin id)) (ha : PAs X W (e :: es) ml) (hn : x ≠ "__name__" := by decide) (hdb : (x == ("__debug__" : Str)) = false := by decide)
    (he : starEach (e :: es) X.env = (false, eval e X.env) :: starEach es X.env := by rfl) (hpl : (backTo pos (starEach es X.env)).any (·.1) = false := by rfl) : PD X W (.Call (.Name x p) (e :: es) [] pos) (e1 ml f) :=
  PE.weak (pe_callBσ (fun σ => hc _) hg hm hv ha hn hdb he hpl) fun _ _ _ h => cb_step h
theorem pd_callT {x : Str} {p : Pos} {T : String} {f : List D → AH → Res D} (hc : CallD X (RD X.K) (.type T) f) (hg : Gl X x) (hm : X.mg x = none) (hv : bootBuiltins x = some (.type T)) (ha : PAs X W (e :: es) ml) (hn : x ≠ "__name__" := by decide) (hdb : (x == ("__debug__" : Str)) = false := by decide)
    (he : starEach (e :: es) X.env = (false, eval e X.env) :: starEach es X.env := by rfl) (hpl : (backTo pos (starEach es X.env)).any (·.1) = false := by rfl) : PD X W (.Call (.Name x p) (e :: es) [] pos) (e1 ml f) :=
  PE.weak (pe_callTyσ (fun σ => hc _) hg hm hv ha hn hdb he hpl) fun _ _ _ h => cb_step h
/-- of one sequence, by its items -/
def CallS (X : Cx) {γ : Type} (Rs : Rel (List D) V) (R : Rel γ V) (F : Value) (f : List D → AH → Res γ) : Prop := ∀ W, CallR X F (fun vs H Q => ∃ μ ah ds x H₀, vs = [x] ∧ Sim X.K μ H ah ∧ Rs.r H₀ μ H ds x ∧ Post X.K R W μ H Q (f ds ah))
theorem cs_step {γ : Type} {Rs : Rel (List D) V} {R : Rel γ V} {f : List D → AH → Res γ} {σ : L2.St} {H : Hp} {Q : VK} (h : tG X.K R W (e1 ml f) σ H Q) :
    tCB (fun vs H Q => ∃ μ ah ds x H₀, vs = [x] ∧ Sim X.K μ H ah ∧ Rs.r H₀ μ H ds x ∧ Post X.K R (fun c d H' => W c d σ H') μ H Q (f ds ah)) (tCons (tG X.K Rs W ml) tNil) σ H Q := by
  obtain ⟨μ, env, ah, he, hs, hp⟩ := h
  exact ⟨μ, env, ah, he, hs, hp.bind fun ds ah1 μ1 x H1 e1 s1 r1 p1 => ⟨μ1, ah1, ds, x, H, rfl, s1, r1, p1⟩⟩
theorem pg_callSB {γ : Type} {Rs : Rel (List D) V} {R : Rel γ V} {x : Str} {p : Pos} {id : String} {f : List D → AH → Res γ} (hc : CallS X Rs R (.builtin id) f) (hg : Gl X x) (hm : X.mg x = none) (hv : bootBuiltins x = some (.builtin id)) (ha : PE X e (tG X.K Rs W ml)) (hn : x ≠ "__name__" := by decide) (hdb : (x == ("__debug__" : Str)) = false := by decide)
    (he : starEach (e :: []) X.env = (false, eval e X.env) :: starEach [] X.env := by rfl) (hpl : (backTo pos (starEach [] X.env)).any (·.1) = false := by rfl) : PE X (.Call (.Name x p) [e] [] pos) (tG X.K R W (e1 ml f)) :=
  PE.weak (pe_callBσ (fun σ => hc _) hg hm hv (pa_cons ha pa_nil he) hn hdb he hpl) fun _ _ _ h => cs_step h
theorem pg_callST {γ : Type} {Rs : Rel (List D) V} {R : Rel γ V} {x : Str} {p : Pos} {T : String} {f : List D → AH → Res γ} (hc : CallS X Rs R (.type T) f) (hg : Gl X x) (hm : X.mg x = none) (hv : bootBuiltins x = some (.type T)) (ha : PE X e (tG X.K Rs W ml)) (hn : x ≠ "__name__" := by decide) (hdb : (x == ("__debug__" : Str)) = false := by decide)
    (he : starEach (e :: []) X.env = (false, eval e X.env) :: starEach [] X.env := by rfl) (hpl : (backTo pos (starEach [] X.env)).any (·.1) = false := by rfl) : PE X (.Call (.Name x p) [e] [] pos) (tG X.K R W (e1 ml f)) :=
  PE.weak (pe_callTyσ (fun σ => hc _) hg hm hv (pa_cons ha pa_nil he) hn hdb he hpl) fun _ _ _ h => cs_step h

/-! ### len -/
def oLen (d : D) (ah : AH) : Res D := match d with
  | .str z => if z.length ≤ line then .ok (.int z.length) ah else .stuck
  | .tup ds => .ok (.int ds.length) ah
  | .ref n => match ah[n]? with
    | some (.lst ds) => .ok (.int ds.length) ah
    | some (.ro ds) => .ok (.int ds.length) ah
    | some (.dK kvs) => .ok (.int kvs.length) ah
    | _ => .stuck
  | _ => .stuck
def oLenA : List D → AH → Res D
  | [d], ah => oLen d ah
  | _, _ => .stuck
theorem reps1 {K : PySem.W.Frag} {μ : List Addr} {H : Hp} {d : D} {vs : List V} (h : Reps K μ H [d] vs) : ∃ v, vs = [v] ∧ Rep K μ H d v := by
  simp only [Reps] at h
  obtain ⟨w, ws, rfl, r, rfl⟩ := h
  exact ⟨w, rfl, r⟩
theorem reps2 {K : PySem.W.Frag} {μ : List Addr} {H : Hp} {d e : D} {vs : List V} (h : Reps K μ H [d, e] vs) : ∃ v w, vs = [v, w] ∧ Rep K μ H d v ∧ Rep K μ H e w := by
  simp only [Reps] at h
  obtain ⟨w, ws, rfl, r, u, us, rfl, r2, rfl⟩ := h
  exact ⟨w, u, rfl, r, r2⟩
theorem call_lenDict : CallR X (.builtin "len") (fun xs H Q => ∃ a kvs, xs = [.ref a] ∧ H a = some (.dK kvs) ∧ Q (.int kvs.length) H) := by
  intro pins s σ H xs us Q I rv h
  obtain ⟨a, kvs, rfl, e, q⟩ := h
  obtain ⟨u, rfl, r⟩ := vals1 rv
  cases r
  exact d_len I (.inl e) fun t s' I' => ⟨.int _, H, I', ⟨t, rfl⟩, q⟩
theorem cd_len : CallD X (RD X.K) (.builtin "len") oLenA := fun W => by
  refine CallR.imp (call_len.or call_lenDict) fun vs H Q ⟨μ, ah, ds, S, r, hp⟩ => ?_
  unfold oLenA at hp
  split at hp
  · rename_i ah' d
    obtain ⟨v, rfl, r1⟩ := reps1 r
    unfold oLen at hp
    cases d with
    | str z =>
      dsimp only at hp
      split at hp
      · rename_i hl
        rw [d_str r1]; exact .inl ⟨_, _, rfl, ⟨line_le hl, rfl⟩, Post.ok1 (R := RD X.K) hp S r_int⟩
      · exact hp.elim
    | tup xs =>
      obtain ⟨a, ws, rfl, q, r2⟩ := d_tup r1
      exact .inl ⟨_, _, rfl, .inr ⟨ws, q, r2.length⟩, Post.ok1 (R := RD X.K) hp S r_int⟩
    | ref n =>
      obtain ⟨a, ea, rfl⟩ := d_ref r1
      dsimp only at hp
      split at hp
      · rename_i xs e
        obtain ⟨b, ws, eb, q, r2⟩ := S.list (show listAt ah n = some xs by unfold listAt; rw [e])
        rw [ea] at eb; cases eb
        exact .inl ⟨_, _, rfl, .inl ⟨ws, q, r2.length⟩, Post.ok1 (R := RD X.K) hp S r_int⟩
      · rename_i xs e
        obtain ⟨b, ws, eb, q, r2⟩ := S.list (show listAt ah n = some xs by unfold listAt; rw [e])
        rw [ea] at eb; cases eb
        exact .inl ⟨_, _, rfl, .inl ⟨ws, q, r2.length⟩, Post.ok1 (R := RD X.K) hp S r_int⟩
      · rename_i kvs e
        obtain ⟨kws, e0, e1, _⟩ := S.ok n a _ ea e
        refine .inr ⟨a, kws, rfl, e0, Post.ok1 (R := RD X.K) hp S ?_⟩
        rw [show kws.length = kvs.length by simpa using (congrArg List.length e1).symm]
        exact r_int
      · exact hp.elim
    | _ => exact hp.elim
  · exact hp.elim
end
end HA

/-! HA7: isinstance, repr, str, int, sum, all, any, tuple, list; subscripts, slices. -/
namespace HA
open PySem PySem.Spec PyProof.Rows L2
section
variable {X : Cx} {W : WX} {k : Nat} {e : Expr} {es : List Expr} {m : EM D} {ml : EM (List D)} {pos : Pos}

/-! ### isinstance against the built-in types -/
def tyName (d : D) (ah : AH) : Option String := match d with
  | .non => some "NoneType"
  | .bl _ => some "bool"
  | .int _ => some "int"
  | .str _ => some "str"
  | .tup _ => some "tuple"
  | .ref n => match ah[n]? with
    | some (.lst _) => some "list"
    | some (.dK _) => some "dict"
    | some (.dT _) => some "dict"
    | _ => none
  | .cst _ => none
def tyIs : String → String → Bool
  | "bool", "int" => true
  | a, b => a == b
def tyTable : List String := ["NoneType", "bool", "int", "str", "tuple", "list", "dict"]
theorem kit_table : ∀ a ∈ tyTable, ∀ b ∈ tyTable, kitB a b = some (tyIs a b) := by decide +kernel
def oIsi : List D → AH → Res D
  | [d, .cst (.ty T)], ah => match tyName d ah with
    | some a => if T ∈ tyTable then .ok (.bl (tyIs a T)) ah else .stuck
    | none => .stuck
  | _, _ => .stuck
theorem tyName_v {K : PySem.W.Frag} {μ : List Addr} {H : Hp} {d : D} {v : V} {ah : AH} {a : String} (S : Sim K μ H ah) (r : Rep K μ H d v) (e : tyName d ah = some a) : TyX K H v (.type a) ∧ a ∈ tyTable := by
  cases d with
  | non => cases e; rw [d_non r]; exact ⟨.base .non, by decide⟩
  | bl b => cases e; rw [d_bl r]; exact ⟨.base (.bl b), by decide⟩
  | int i => cases e; rw [d_int r]; exact ⟨.base (.int i), by decide⟩
  | str i => cases e; rw [d_str r]; exact ⟨.base (.str i), by decide⟩
  | tup ds =>
    cases e
    obtain ⟨a, vs, rfl, q, _⟩ := d_tup r
    refine ⟨?_, by decide⟩
    rcases q with (q | ⟨o, q⟩) | ⟨o, its, n, q1, q2, _⟩
    · exact .base (.tup q)
    · exact .fTuple q
    · exact .kTuple q1 q2
  | ref n =>
    obtain ⟨b, eb, rfl⟩ := d_ref r
    unfold tyName at e
    dsimp only at e
    split at e
    · rename_i ds q
      cases e
      obtain ⟨vs, e0, _⟩ := S.ok n b _ eb q
      exact ⟨.base (.lst e0), by decide⟩
    · rename_i ds q
      cases e
      obtain ⟨vs, e0, _⟩ := S.ok n b _ eb q
      exact ⟨.base (.dK e0), by decide⟩
    · rename_i ds q
      cases e
      obtain ⟨vs, e0, _⟩ := S.ok n b _ eb q
      exact ⟨.base (.dT e0), by decide⟩
    · cases e
  | cst w => cases e
theorem cd_isi : CallD X (RD X.K) (.builtin "isinstance") oIsi := fun W => by
  refine CallR.imp call_isi fun vs H Q ⟨μ, ah, ds, S, r, hp⟩ => ?_
  unfold oIsi at hp
  split at hp
  · rename_i ah' d T
    obtain ⟨v, w, rfl, r1, r2⟩ := reps2 r
    have ew : w = .ty T := by simpa only [Rep] using r2
    subst ew
    split at hp
    · rename_i a e
      split at hp
      · rename_i hT
        obtain ⟨h1, h2⟩ := tyName_v S r1 e
        exact ⟨v, _, _, _, _, rfl, .ty T, h1, kit_ty (kit_table a h2 T hT), Post.ok1 (R := RD X.K) hp S r_bl⟩
      · exact hp.elim
    · exact hp.elim
  · exact hp.elim
/-- a built-in type's name as an argument -/
theorem pd_ty {x : Str} {T : String} {pos : Pos} (hg : Gl X x) (hm : X.mg x = none) (hv : bootBuiltins x = some (.type T)) (hn : x ≠ "__name__" := by decide) (hd : (x == ("__debug__" : Str)) = false := by decide) : PD X W (.Name x pos) (eC (.cst (.ty T))) :=
  pd_c (pe_bltn (v := .ty T) hg hm hv rfl hn hd) fun _ _ => by simp only [Rep]

/-! ### repr, str, int -/
def oRepr : List D → AH → Res D
  | [d], ah => match pd ah d with
    | some p => if p.showable = true ∧ p.shown.length ≤ line ∧ p.depth ≤ 63 then .ok (.str p.shown) ah else .stuck
    | none => .stuck
  | _, _ => .stuck
theorem cd_repr (hr : Rm k X.A) : CallD X (RD X.K) (.builtin "repr") oRepr := fun W => by
  intro pins s σ H xs us Q I rv h
  obtain ⟨μ, ah, ds, S, r, hp⟩ := h
  unfold oRepr at hp
  split at hp
  · rename_i ah' d
    obtain ⟨v, rfl, r1⟩ := reps1 r
    obtain ⟨u, rfl, ru⟩ := vals1 rv
    split at hp
    · rename_i p e
      split at hp
      · rename_i hc
        have q := Inv.sr I S deep d v u p e r1 ru
        refine SR.repr q hc.1 (line_le hc.2.1) hr.gd (by have := hr.u65; have := hc.2.2; omega) fun h' t tk kk => ?_
        exact ⟨.str p.shown, H, I.kept kk, ⟨t, rfl⟩, Post.ok1 (R := RD X.K) hp S r_str⟩
      · exact hp.elim
    · exact hp.elim
  · exact hp.elim
def oStr : List D → AH → Res D
  | [.int i], ah => if i.natAbs.log2 < 1920 then .ok (.str (toString i)) ah else .stuck
  | [.bl b], ah => .ok (.str (if b then "True" else "False")) ah
  | [.str x], ah => .ok (.str x) ah
  | [.non], ah => .ok (.str "None") ah
  | _, _ => .stuck
theorem call_str_bn : CallR X (.type "str") (fun xs H Q => (∃ b : Bool, xs = [.bl b] ∧ Q (.str (if b then "True" else "False")) H) ∨ (xs = [.non] ∧ Q (.str "None") H)) := by
  intro pins s σ H xs us Q I r h
  rcases h with ⟨b, rfl, q⟩ | ⟨rfl, q⟩
  · obtain ⟨u, rfl, ru⟩ := vals1 r
    cases ru
    exact PySem.P.str_of_bool ⟨.str _, H, I.tok _, ⟨_, rfl⟩, q⟩
  · obtain ⟨u, rfl, ru⟩ := vals1 r
    cases ru
    exact PySem.P.str_of_none ⟨.str _, H, I.tok _, ⟨_, rfl⟩, q⟩
theorem cd_str : CallD X (RD X.K) (.type "str") oStr := fun W => by
  refine CallR.imp ((call_str_int.or SkE.call_str_str).or call_str_bn) fun vs H Q ⟨μ, ah, ds, S, r, hp⟩ => ?_
  unfold oStr at hp
  split at hp
  · obtain ⟨v, rfl, r1⟩ := reps1 r
    split at hp
    · rename_i hl
      rw [d_int r1]; exact .inl (.inl ⟨_, rfl, hl, Post.ok1 (R := RD X.K) hp S r_str⟩)
    · exact hp.elim
  · obtain ⟨v, rfl, r1⟩ := reps1 r
    rw [d_bl r1]; exact .inr (.inl ⟨_, rfl, Post.ok1 (R := RD X.K) hp S r_str⟩)
  · obtain ⟨v, rfl, r1⟩ := reps1 r
    rw [d_str r1]; exact .inl (.inr ⟨_, rfl, Post.ok1 (R := RD X.K) hp S r_str⟩)
  · obtain ⟨v, rfl, r1⟩ := reps1 r
    rw [d_non r1]; exact .inr (.inr ⟨rfl, Post.ok1 (R := RD X.K) hp S r_str⟩)
  · exact hp.elim
def oInt : List D → AH → Res D
  | [.int i], ah => .ok (.int i) ah
  | [.bl b], ah => .ok (.int (if b then 1 else 0)) ah
  | _, _ => .stuck
theorem cd_int : CallD X (RD X.K) (.type "int") oInt := fun W => by
  refine CallR.imp call_int1 fun vs H Q ⟨μ, ah, ds, S, r, hp⟩ => ?_
  unfold oInt at hp
  split at hp
  · obtain ⟨v, rfl, r1⟩ := reps1 r
    rw [d_int r1]; exact .inl ⟨_, rfl, Post.ok1 (R := RD X.K) hp S r_int⟩
  · obtain ⟨v, rfl, r1⟩ := reps1 r
    rw [d_bl r1]; exact .inr ⟨_, rfl, Post.ok1 (R := RD X.K) hp S r_int⟩
  · exact hp.elim
def oMin : List D → AH → Res D
  | [.int i, .int j], ah => .ok (.int (if j < i then j else i)) ah
  | _, _ => .stuck
def oMax : List D → AH → Res D
  | [.int i, .int j], ah => .ok (.int (if j > i then j else i)) ah
  | _, _ => .stuck
theorem cd_min (hc : X.calm = true) : CallD X (RD X.K) (.builtin "min") oMin := fun W => by
  refine CallR.imp (call_min2 hc) fun vs H Q ⟨μ, ah, ds, S, r, hp⟩ => ?_
  unfold oMin at hp
  split at hp
  · obtain ⟨v, w, rfl, r1, r2⟩ := reps2 r
    rw [d_int r1, d_int r2]; exact ⟨_, _, rfl, Post.ok1 (R := RD X.K) hp S r_int⟩
  · exact hp.elim
theorem cd_max (hc : X.calm = true) : CallD X (RD X.K) (.builtin "max") oMax := fun W => by
  refine CallR.imp (call_max2 hc) fun vs H Q ⟨μ, ah, ds, S, r, hp⟩ => ?_
  unfold oMax at hp
  split at hp
  · obtain ⟨v, w, rfl, r1, r2⟩ := reps2 r
    rw [d_int r1, d_int r2]; exact ⟨_, _, rfl, Post.ok1 (R := RD X.K) hp S r_int⟩
  · exact hp.elim

/-! ### sum, all, any, tuple, list of a sequence -/
def dInt : D → Option Int
  | .int i => some i
  | _ => none
def dBool : D → Option Bool
  | .bl b => some b
  | _ => none
def dStr : D → Option Str
  | .str b => some b
  | _ => none
theorem ints_of : ∀ {ds : List D} {ns : List Int}, optAll dInt ds = some ns → ds = ns.map D.int
  | [], _, h => by cases h; rfl
  | d :: ds, _, h => by
    obtain ⟨b, cs, rfl, h1, h2⟩ := optAll_cons h
    rw [ints_of h2]
    cases d <;> simp only [dInt, Option.some.injEq, reduceCtorEq] at h1
    subst h1; rfl
theorem bools_of : ∀ {ds : List D} {ns : List Bool}, optAll dBool ds = some ns → ds = ns.map D.bl
  | [], _, h => by cases h; rfl
  | d :: ds, _, h => by
    obtain ⟨b, cs, rfl, h1, h2⟩ := optAll_cons h
    rw [bools_of h2]
    cases d <;> simp only [dBool, Option.some.injEq, reduceCtorEq] at h1
    subst h1; rfl
theorem strs_of : ∀ {ds : List D} {ns : List Str}, optAll dStr ds = some ns → ds = ns.map D.str
  | [], _, h => by cases h; rfl
  | d :: ds, _, h => by
    obtain ⟨b, cs, rfl, h1, h2⟩ := optAll_cons h
    rw [strs_of h2]
    cases d <;> simp only [dStr, Option.some.injEq, reduceCtorEq] at h1
    subst h1; rfl
def sSum (ds : List D) (ah : AH) : Res D := match optAll dInt ds with
  | some ns => .ok (.int ns.sum) ah
  | none => .stuck
def sAll (ds : List D) (ah : AH) : Res D := match optAll dBool ds with
  | some bs => .ok (.bl (bs.all id)) ah
  | none => .stuck
def sAny (ds : List D) (ah : AH) : Res D := match optAll dBool ds with
  | some bs => .ok (.bl (bs.any id)) ah
  | none => .stuck
theorem cs_sum (hc : X.calm = true) : CallS X (RM X.K) (RD X.K) (.builtin "sum") sSum := fun W => by
  refine CallR.imp (cr_sum hc) fun vs H Q ⟨μ, ah, ds, x, H₀, ev, S, ⟨a, ws, ex, q, r⟩, hp⟩ => ?_
  subst ev ex
  unfold sSum at hp
  split at hp
  · rename_i ns e
    rw [ints_of e] at r
    rw [r.ints] at q
    exact ⟨a, ns, rfl, q, Post.ok1 (R := RD X.K) hp S r_int⟩
  · exact hp.elim
theorem cs_all (hc : X.calm = true) : CallS X (RM X.K) (RD X.K) (.builtin "all") sAll := fun W => by
  refine CallR.imp (cr_all hc) fun vs H Q ⟨μ, ah, ds, x, H₀, ev, S, ⟨a, ws, ex, q, r⟩, hp⟩ => ?_
  subst ev ex
  unfold sAll at hp
  split at hp
  · rename_i ns e
    rw [bools_of e] at r
    rw [r.bools] at q
    exact ⟨a, ns, rfl, q, Post.ok1 (R := RD X.K) hp S r_bl⟩
  · exact hp.elim
theorem cs_any (hc : X.calm = true) : CallS X (RM X.K) (RD X.K) (.builtin "any") sAny := fun W => by
  refine CallR.imp (cr_any hc) fun vs H Q ⟨μ, ah, ds, x, H₀, ev, S, ⟨a, ws, ex, q, r⟩, hp⟩ => ?_
  subst ev ex
  unfold sAny at hp
  split at hp
  · rename_i ns e
    rw [bools_of e] at r
    rw [r.bools] at q
    exact ⟨a, ns, rfl, q, Post.ok1 (R := RD X.K) hp S r_bl⟩
  · exact hp.elim
def sTup (ds : List D) (ah : AH) : Res D := .ok (.tup ds) ah
theorem cs_tuple : CallS X (RQ X.K) (RD X.K) (.type "tuple") sTup := fun W => by
  refine CallR.imp call_tuple_of fun vs H Q ⟨μ, ah, ds, x, H₀, ev, S, ⟨a, ws, ex, q, r⟩, hp⟩ => ?_
  subst ev ex
  refine ⟨a, ws, rfl, ?_⟩
  rcases q with q | q
  · exact .inl ⟨q, fun l hl => hp.newT S r hl⟩
  · exact .inr ⟨q, Post.ok1 (R := RD X.K) hp S (r_tup q r)⟩
def sList (ds : List D) (ah : AH) : Res (List D) := .ok ds ah
theorem cs_list : CallS X (RQ X.K) (RL X.K) (.type "list") sList := fun W => by
  refine CallR.imp call_list_of fun vs H Q ⟨μ, ah, ds, x, H₀, ev, S, ⟨a, ws, ex, q, r⟩, hp⟩ => ?_
  subst ev ex
  exact ⟨a, ws, rfl, q, fun l hl => hp.newL S r hl⟩

/-! ### a[i] -/
def ixD {α : Type} (xs : List α) (i : Int) : Option α := (ixN xs.length i).bind fun j => xs[j]?
def valD {κ : Type} [DecidableEq κ] (kvs : List (κ × D)) (k : κ) : Option D := (kvs.find? fun kv => decide (kv.1 = k)).map (·.2)
def oIx : D → D → AH → Res D
  | .tup ds, .int i, ah => match ixD ds i with
    | some d => .ok d ah
    | none => .stuck
  | .str z, .int i, ah => if z.length ≤ line then match ixD z.cps.toList i with
    | some c => .ok (.str ⟨#[c]⟩) ah
    | none => .stuck else .stuck
  | .ref n, .int i, ah => match ah[n]? with
    | some (.lst ds) => match ixD ds i with
      | some d => .ok d ah
      | none => .stuck
    | some (.ro ds) => match ixD ds i with
      | some d => .ok d ah
      | none => .stuck
    | _ => .stuck
  | _, _, _ => .stuck
theorem ixD_get {K : PySem.W.Frag} {μ : List Addr} {H : Hp} {ds : List D} {vs : List V} {i : Int} {d : D} (r : Reps K μ H ds vs) (e : ixD ds i = some d) : ∃ v, atI vs i = some v ∧ Rep K μ H d v := by
  unfold ixD at e
  obtain ⟨j, e1, e2⟩ := Option.bind_eq_some_iff.mp e
  obtain ⟨v, e3, r2⟩ := r.get e2
  exact ⟨v, by unfold atI; rw [← r.length, e1]; exact e3, r2⟩
theorem pe_ixσ {r : L2.St → R2} {a b : Expr} {ta tb : TE} (hr : ∀ σ, IxR X (r σ)) (ha : PE X a ta) (hb : PE X b tb) (hs : PlainIx b) : PE X (.Subscript a b pos) (fun σ H Q => tOp (r σ) ta tb σ H Q) :=
  ⟨fun pins s σ H Q I h => (pe_ix (hr σ) ha hb hs).run pins s σ H Q I h⟩
theorem IxR.imp {r r' : R2} (h : IxR X r) (k : ∀ x y H Q, r' x y H Q → r x y H Q) : IxR X r' := fun ve se pins s σ H x y v u Q I rx ry q => h ve se pins s σ H x y v u Q I rx ry (k x y H Q q)
theorem ix_d (Wx : Value → Option Addr → Hp → Prop) : IxR X (rO (R := RD X.K) X.K Wx oIx) := by
  refine IxR.imp ix_seq fun x y H Q ⟨μ, ah, dx, dy, S, rx, ry, hp⟩ => ?_
  unfold oIx at hp
  split at hp
  · split at hp
    · rename_i d e
      obtain ⟨a, vs, rfl, q, r2⟩ := d_tup rx
      obtain ⟨v, ev, rv⟩ := ixD_get r2 e
      rw [d_int ry]
      exact .inr (.inl ⟨a, vs, _, v, rfl, rfl, q, ev, Post.ok1 (R := RD X.K) hp S rv⟩)
    · exact hp.elim
  · split at hp
    · rename_i hl
      split at hp
      · rename_i c e
        rw [d_str rx, d_int ry]
        exact .inr (.inr ⟨_, _, c, rfl, rfl, line_le hl, e, Post.ok1 (R := RD X.K) hp S r_str⟩)
      · exact hp.elim
    · exact hp.elim
  · rename_i ah' n i
    obtain ⟨a, ea, rfl⟩ := d_ref rx
    split at hp
    · rename_i ds q
      split at hp
      · rename_i d e
        obtain ⟨b, vs, eb, q2, r2⟩ := S.list (show listAt _ n = some ds by unfold listAt; rw [q])
        rw [ea] at eb; cases eb
        obtain ⟨v, ev, rv⟩ := ixD_get r2 e
        rw [d_int ry]
        exact .inl ⟨a, vs, _, v, rfl, rfl, q2, ev, Post.ok1 (R := RD X.K) hp S rv⟩
      · exact hp.elim
    · rename_i ds q
      split at hp
      · rename_i d e
        obtain ⟨b, vs, eb, q2, r2⟩ := S.list (show listAt _ n = some ds by unfold listAt; rw [q])
        rw [ea] at eb; cases eb
        obtain ⟨v, ev, rv⟩ := ixD_get r2 e
        rw [d_int ry]
        exact .inl ⟨a, vs, _, v, rfl, rfl, q2, ev, Post.ok1 (R := RD X.K) hp S rv⟩
      · exact hp.elim
    · exact hp.elim
  · exact hp.elim
theorem pd_ix {a b : Expr} {ma mb : EM D} (ha : PD X W a ma) (hb : PD X W b mb) (hs : PlainIx b := by exact fun _ _ => rfl) : PD X W (.Subscript a b pos) (e2 ma mb oIx) :=
  PE.weak (pe_ixσ (fun σ => ix_d (fun c d H' => W c d σ H')) ha hb hs) fun _ _ _ h => op2 h
/-- a new list's item -/
def lIx (ds : List D) (d : D) (ah : AH) : Res D := match d with
  | .int i => match ixD ds i with
    | some x => .ok x ah
    | none => .stuck
  | _ => .stuck
theorem pd_ixL {a b : Expr} {ma : EM (List D)} {mb : EM D} (ha : PL X W a ma) (hb : PD X W b mb) (hs : PlainIx b := by exact fun _ _ => rfl) : PD X W (.Subscript a b pos) (e2 ma mb lIx) := by
  refine PE.weak (pe_ix ix_list ha hb hs) fun σ H Q ⟨μ, env, ah, he, hs, hp⟩ => ?_
  refine ⟨μ, env, ah, he, hs, hp.bind fun ds ah1 μ1 x H1 e1 s1 r1 p1 => ?_⟩
  refine tG_next he e1 s1 (p1.bind fun dy ah2 μ2 y H2 e2 s2 r2 p2 => ?_)
  obtain ⟨l, vs, rfl, _, hl, hm, r⟩ := r1
  cases dy with
  | int i =>
    unfold lIx at p2
    dsimp only at p2
    split at p2
    · rename_i d e
      obtain ⟨v, ev, rv⟩ := ixD_get (r.ext e2) e
      rw [d_int (show Rep X.K μ2 H2 (.int i) y from r2)]
      exact ⟨l, vs, i, v, rfl, rfl, SqL.of (e2.keep l _ hm hl), ev, Post.ok1 (R := RD X.K) p2 s2 rv⟩
    · exact p2.elim
  | _ => exact p2.elim

/-! ### a[lo:hi] -/
def cut {α : Type} (xs : List α) (lo hi : Option Int) : List α := (xs.drop (HT.sIx xs.length 0 lo)).take (HT.sIx xs.length xs.length hi - HT.sIx xs.length 0 lo)
def oPart (m : Option (EM D)) : EM (Option Int) := match m with
  | none => fun _ ah => .ok none ah
  | some m => e1 m fun d ah => match d with
    | .int i => .ok (some i) ah
    | _ => .stuck
def RP : Rel (Option Int) (Option Int) := ⟨fun _ _ _ a b => a = b, fun _ h => h⟩
theorem PO.weak {p : Option Expr} {t t' : TO} (h : PO X p t) (k : ∀ σ H Q, t' σ H Q → t σ H Q) : PO X p t' := ⟨fun pins s σ H Q I q => h.run pins s σ H Q I (k σ H Q q)⟩
def PPart (X : Cx) (W : WX) (p : Option Expr) (m : EM (Option Int)) : Prop := PO X p (tG X.K RP W m)
theorem pp_none : PPart X W none (oPart none) := PO.weak po_none fun σ H Q ⟨μ, env, ah, he, hs, hp⟩ => Post.ok1 (R := RP) hp hs rfl
theorem pp_some (h : PD X W e m) : PPart X W (some e) (oPart (some m)) := by
  refine PO.weak (po_some h) fun σ H Q ⟨μ, env, ah, he, hs, hp⟩ => ?_
  refine ⟨μ, env, ah, he, hs, hp.bind fun d ah1 μ1 x H1 e1 s1 r1 p1 => ?_⟩
  cases d with
  | int i => exact ⟨i, d_int (show Rep X.K μ1 H1 (.int i) x from r1), Post.ok1 (R := RP) p1 s1 rfl⟩
  | _ => exact p1.elim
def e3 {α β γ δ : Type} (ma : EM α) (mb : EM β) (mc : EM γ) (f : α → β → γ → AH → Res δ) : EM δ := fun env ah => (ma env ah).bind fun x ah1 => (mb env ah1).bind fun y ah2 => (mc env ah2).bind fun z ah3 => f x y z ah3
/-- of a tuple, a text -/
def oCut (d : D) (lo hi : Option Int) (ah : AH) : Res D := match d with
  | .tup ds => .ok (.tup (cut ds lo hi)) ah
  | _ => .stuck
theorem Reps.cut {K : PySem.W.Frag} {μ : List Addr} {H : Hp} {ds : List D} {vs : List V} (r : Reps K μ H ds vs) (lo hi : Option Int) : Reps K μ H (HA.cut ds lo hi) (cutV vs lo hi) := by
  unfold HA.cut cutV
  rw [r.length]
  exact (r.drop _).take _
theorem cut_whole {α : Type} {ds : List α} {lo hi : Option Int} (h : HT.sIx ds.length 0 lo = 0 ∧ HT.sIx ds.length ds.length hi = ds.length) : cut ds lo hi = ds := by
  unfold cut
  rw [h.1, h.2]; simp
variable {lo hi : Option Expr} {mlo mhi : EM (Option Int)} {p2 : Pos}
theorem pd_cut (he : PD X W e m) (hl : PPart X W lo mlo) (hh : PPart X W hi mhi) : PD X W (.Subscript e (.Slice lo hi none p2) pos) (e3 m mlo mhi oCut) := by
  refine PE.weak (pe_slice sl_tupA he hl hh) fun σ H Q ⟨μ, env, ah, he, hs, hp⟩ => ?_
  refine ⟨μ, env, ah, he, hs, hp.bind fun d ah1 μ1 x H1 e1 s1 r1 p1 => ?_⟩
  refine tG_next he e1 s1 (p1.bind fun lo ah2 μ2 lo' H2 e2 s2 r2 p2 => ?_)
  refine tG_next he (e1.trans e2) s2 (p2.bind fun hi ah3 μ3 hi' H3 e3 s3 r3 p3 => ?_)
  cases (show lo = lo' from r2)
  cases (show hi = hi' from r3)
  cases d with
  | tup ds =>
    obtain ⟨a, vs, rfl, q, r⟩ := d_tup (Rep.ext (Rep.ext (show Rep X.K μ1 H1 (.tup ds) x from r1) e2) e3)
    refine ⟨a, vs, rfl, q, fun hw => ?_, fun _ p np => ?_⟩
    · refine Post.ok1 (R := RD X.K) p3 s3 (r_tup q ?_)
      rw [cut_whole (by rw [r.length]; exact hw)]; exact r
    · exact Post.newT p3 s3 (r.cut lo hi) np
  | _ => exact p3.elim
/-- of a list: a new list -/
def lCut (ds : List D) (lo hi : Option Int) (ah : AH) : Res (List D) := .ok (cut ds lo hi) ah
theorem pl_cut (he : PD X W e m) (hl : PPart X W lo mlo) (hh : PPart X W hi mhi) : PL X W (.Subscript e (.Slice lo hi none p2) pos) (e3 m mlo mhi fun d lo hi ah => (listOf d ah).bind fun ds ah => lCut ds lo hi ah) := by
  refine PE.weak (pe_slice sl_list he hl hh) fun σ H Q ⟨μ, env, ah, he, hs, hp⟩ => ?_
  refine ⟨μ, env, ah, he, hs, hp.bind0 fun d ah1 μ1 x H1 e1 s1 r1 p1 => ?_⟩
  refine ⟨μ1, env, ah1, he.ext e1, s1, ?_⟩
  refine (Post.ext e1 p1).bind fun lo ah2 μ2 lo' H2 e2 s2 r2 p2 => ?_
  refine tG_next he (e1.trans e2) s2 (p2.bind fun hi ah3 μ3 hi' H3 e3 s3 r3 p3 => ?_)
  cases (show lo = lo' from r2)
  cases (show hi = hi' from r3)
  cases d with
  | ref n =>
    obtain ⟨a, ea, rfl⟩ := d_ref (Rep.ext (Rep.ext (show Rep X.K μ1 H1 (.ref n) x from r1) e2) e3)
    unfold listOf at p3
    dsimp only at p3
    split at p3
    · rename_i ds e
      obtain ⟨b, vs, eb, q, r⟩ := s3.list e
      rw [ea] at eb; cases eb
      exact ⟨a, vs, rfl, q, fun p np => Post.newL p3 s3 (r.cut lo hi) np⟩
    · exact p3.elim
  | _ => exact p3.elim
end
end HA

/-! HA8: statements, targets, what is walked, for, while. -/
namespace HA
open PySem PySem.Spec PyProof.Rows L2

/-! ### == of data is decidable -/
mutual
def D.eqb : D → D → Bool
  | .non, .non => true
  | .bl a, .bl b => decide (a = b)
  | .int a, .int b => decide (a = b)
  | .str a, .str b => decide (a = b)
  | .tup a, .tup b => D.eqbs a b
  | .ref a, .ref b => decide (a = b)
  | .cst a, .cst b => decide (a = b)
  | _, _ => false
def D.eqbs : List D → List D → Bool
  | [], [] => true
  | a :: as, b :: bs => D.eqb a b && D.eqbs as bs
  | _, _ => false
end
mutual
theorem D.eqb_iff : ∀ (a b : D), D.eqb a b = true ↔ a = b
  | .non, b => by cases b <;> simp [D.eqb]
  | .bl x, b => by cases b <;> simp [D.eqb]
  | .int x, b => by cases b <;> simp [D.eqb]
  | .str x, b => by cases b <;> simp [D.eqb]
  | .tup x, b => by
    cases b with
    | tup y => simp only [D.eqb, D.tup.injEq]; exact D.eqbs_iff x y
    | _ => simp [D.eqb]
  | .ref x, b => by cases b <;> simp [D.eqb]
  | .cst x, b => by cases b <;> simp [D.eqb]
theorem D.eqbs_iff : ∀ (a b : List D), D.eqbs a b = true ↔ a = b
  | [], b => by cases b <;> simp [D.eqbs]
  | x :: xs, b => by
    cases b with
    | nil => simp [D.eqbs]
    | cons y ys => simp only [D.eqbs, Bool.and_eq_true, List.cons.injEq]; rw [D.eqb_iff x y, D.eqbs_iff xs ys]
end
instance : DecidableEq D := fun a b => decidable_of_iff _ (D.eqb_iff a b)

/-! ### what statements come to -/
inductive SRes where
  | nx (env : Env) (h : AH)
  | rt (d : D) (h : AH)
  | bk (env : Env) (h : AH)
  | ct (env : Env) (h : AH)
  | exn (c : Addr) (fs : Option (List (Str × D))) (env : Env) (h : AH)
  | stuck
abbrev SM := Env → AH → SRes
def PostS (K : PySem.W.Frag) (W : WX) (D : Ends) (μ : List Addr) (H : Hp) : SRes → Prop
  | .nx env' ah' => ∀ μ' σ' H', Ext K μ H μ' H' → Sim K μ' H' ah' → EnvRel K μ' H' env' σ' → D.nx σ' H'
  | .rt d ah' => ∀ μ' v H', Ext K μ H μ' H' → Sim K μ' H' ah' → Rep K μ' H' d v → D.rt v H'
  | .bk env' ah' => ∀ μ' σ' H', Ext K μ H μ' H' → Sim K μ' H' ah' → EnvRel K μ' H' env' σ' → D.bk σ' H'
  | .ct env' ah' => ∀ μ' σ' H', Ext K μ H μ' H' → Sim K μ' H' ah' → EnvRel K μ' H' env' σ' → D.ct σ' H'
  | .exn c fs env' ah' => ∀ μ' σ' H' od, Ext K μ H μ' H' → Sim K μ' H' ah' → EnvRel K μ' H' env' σ' → ExnOk K μ' H' fs od → W (.ref c) od σ' H'
  | .stuck => False
section
variable {K : PySem.W.Frag} {W : WX} {D : Ends} {μ μ1 : List Addr} {H H1 : Hp}
theorem PostS.ext {r : SRes} (e : Ext K μ H μ1 H1) (h : PostS K W D μ H r) : PostS K W D μ1 H1 r := by
  cases r with
  | nx env ah => exact fun μ' σ' H' e' => h μ' σ' H' (e.trans e')
  | rt d ah => exact fun μ' σ' H' e' => h μ' σ' H' (e.trans e')
  | bk env ah => exact fun μ' σ' H' e' => h μ' σ' H' (e.trans e')
  | ct env ah => exact fun μ' σ' H' e' => h μ' σ' H' (e.trans e')
  | exn c fs env ah => exact fun μ' σ' H' od e' => h μ' σ' H' od (e.trans e')
  | stuck => exact h
end
/-- an expression's answer, then the rest -/
def Res.thenS {α : Type} (r : Res α) (env : Env) (f : α → AH → SRes) : SRes := match r with
  | .ok a h => f a h
  | .exn c fs h => .exn c fs env h
  | .stuck => .stuck
@[simp] theorem Res.thenS_ok {α : Type} (a : α) (h : AH) (env : Env) (f : α → AH → SRes) : (Res.ok a h).thenS env f = f a h := rfl
@[simp] theorem Res.thenS_exn {α : Type} (c : Addr) (fs : Option (List (Str × D))) (h : AH) (env : Env) (f : α → AH → SRes) : (Res.exn c fs h : Res α).thenS env f = .exn c fs env h := rfl
@[simp] theorem Res.thenS_stuck {α : Type} (env : Env) (f : α → AH → SRes) : (Res.stuck : Res α).thenS env f = .stuck := rfl
theorem PostS.bind {K : PySem.W.Frag} {W : WX} {D : Ends} {μ : List Addr} {H : Hp} {β γ : Type} {R : Rel β γ} {P : γ → Hp → Prop} {r : Res β} {env : Env} {σ : L2.St} {f : β → AH → SRes} (h : PostS K W D μ H (r.thenS env f)) (he : EnvRel K μ H env σ)
    (k : ∀ d ah1 μ1 x H1, Ext K μ H μ1 H1 → Sim K μ1 H1 ah1 → R.r H μ1 H1 d x → PostS K W D μ1 H1 (f d ah1) → P x H1) : Post K R (fun c d H' => W c d σ H') μ H P r := by
  cases r with
  | ok d ah => exact fun μ' x H' e' s' r' => k d ah μ' x H' e' s' r' (PostS.ext e' h)
  | exn c fs ah => exact fun μ' H' od e' s' x => h μ' σ H' od e' s' (he.ext e') x
  | stuck => exact h
def tS (K : PySem.W.Frag) (W : WX) (m : SM) : TS := fun D σ H => ∃ (μ : List Addr) (env : Env) (ah : AH), EnvRel K μ H env σ ∧ Sim K μ H ah ∧ PostS K W D μ H (m env ah)
theorem PS.weak {X : Cx} {st : Stmt} {t t' : TS} (h : PS X st t) (k : ∀ D σ H, t' D σ H → t D σ H) : PS X st t' := ⟨fun pins s σ H D I q => h.run pins s σ H D I (k D σ H q)⟩
theorem PSs.weak {X : Cx} {st : List Stmt} {t t' : TS} (h : PSs X st t) (k : ∀ D σ H, t' D σ H → t D σ H) : PSs X st t' := ⟨fun pins s σ H D I q => h.run pins s σ H D I (k D σ H q)⟩
def PZ (X : Cx) (W : WX) (st : Stmt) (m : SM) : Prop := PS X st (tS X.K W m)
def PZs (X : Cx) (W : WX) (st : List Stmt) (m : SM) : Prop := PSs X st (tS X.K W m)

def sSkip : SM := fun env ah => .nx env ah
def sSeq (a b : SM) : SM := fun env ah => match a env ah with
  | .nx env1 ah1 => b env1 ah1
  | r => r
def sRet (m : EM D) : SM := fun env ah => (m env ah).thenS env fun d ah1 => .rt d ah1
def sRetN : SM := fun _ ah => .rt .non ah
def sExpr (m : EM D) : SM := fun env ah => (m env ah).thenS env fun _ ah1 => .nx env ah1
def sIf (c : EM Bool) (a b : SM) : SM := fun env ah => (c env ah).thenS env fun x ah1 => if x = true then a env ah1 else b env ah1
section
variable {X : Cx} {W : WX} {k : Nat} {e : Expr} {es : List Expr} {m : EM D} {ml : EM (List D)} {pos : Pos} {st : Stmt} {rest : List Stmt} {ma mb : SM}
theorem post_next {K : PySem.W.Frag} {W : WX} {D : Ends} {μ : List Addr} {H : Hp} {env : Env} {ah : AH} {σ : L2.St} (h : PostS K W D μ H (.nx env ah)) (S : Sim K μ H ah) (E : EnvRel K μ H env σ) : D.nx σ H := h μ σ H Ext.refl S E
theorem pzs_nil : PZs X W [] sSkip := PSs.weak pss_nil fun D σ H ⟨μ, env, ah, he, hs, hp⟩ => post_next hp hs he
theorem pz_pass : PZ X W (.Pass pos) sSkip := PS.weak ps_pass fun D σ H ⟨μ, env, ah, he, hs, hp⟩ => post_next hp hs he
theorem pz_break : PZ X W (.Break pos) (fun env ah => .bk env ah) := PS.weak ps_break fun D σ H ⟨μ, env, ah, he, hs, hp⟩ => hp μ σ H Ext.refl hs he
theorem pz_continue : PZ X W (.Continue pos) (fun env ah => .ct env ah) := PS.weak ps_continue fun D σ H ⟨μ, env, ah, he, hs, hp⟩ => hp μ σ H Ext.refl hs he
theorem pzs_cons (h1 : PZ X W st ma) (h2 : PZs X W rest mb) : PZs X W (st :: rest) (sSeq ma mb) := by
  refine PSs.weak (pss_cons h1 h2) fun D σ H ⟨μ, env, ah, he, hs, hp⟩ => ?_
  refine ⟨μ, env, ah, he, hs, ?_⟩
  unfold sSeq at hp
  cases q : ma env ah with
  | nx env1 ah1 =>
    rw [q] at hp
    exact fun μ' σ' H' e' s' r' => ⟨μ', env1, ah1, r', s', PostS.ext e' hp⟩
  | rt d ah1 => rw [q] at hp; exact hp
  | bk env1 ah1 => rw [q] at hp; exact hp
  | ct env1 ah1 => rw [q] at hp; exact hp
  | exn c fs env1 ah1 => rw [q] at hp; exact hp
  | stuck => rw [q] at hp; exact hp
theorem pzs_one (h1 : PZ X W st ma) : PZs X W [st] ma := PSs.weak (pss_one h1) fun D σ H h => h
theorem pz_ret (h : PD X W e m) : PZ X W (.Return (some e) pos) (sRet m) := by
  refine PS.weak (ps_ret h) fun D σ H ⟨μ, env, ah, he, hs, hp⟩ => ?_
  exact ⟨μ, env, ah, he, hs, PostS.bind hp he fun d ah1 μ1 x H1 e1 s1 r1 p1 => p1 μ1 x H1 Ext.refl s1 r1⟩
theorem pz_retN : PZ X W (.Return none pos) sRetN := PS.weak ps_retN fun D σ H ⟨μ, env, ah, he, hs, hp⟩ => hp μ .non H Ext.refl hs (show Rep X.K μ H .non .non by simp only [Rep])
theorem pz_expr (h : PD X W e m) (hs : swapsWith e none pos.line X.env = pure false := by rfl) : PZ X W (.Expr e pos) (sExpr m) := by
  refine PS.weak (ps_expr h hs) fun D σ H ⟨μ, env, ah, he, hs, hp⟩ => ?_
  exact ⟨μ, env, ah, he, hs, PostS.bind hp he fun d ah1 μ1 x H1 e1 s1 r1 p1 => post_next p1 s1 (he.ext e1)⟩
theorem pz_if {c : Expr} {a b : List Stmt} {mc : EM Bool} (hc : PB X W c mc) (ha : PZs X W a ma) (hb : PZs X W b mb) : PZ X W (.If c a b pos) (sIf mc ma mb) := by
  refine PS.weak (ps_if hc ha hb) fun D σ H ⟨μ, env, ah, he, hs, hp⟩ => ?_
  refine ⟨μ, env, ah, he, hs, PostS.bind hp he fun d ah1 μ1 x H1 e1 s1 r1 p1 => ?_⟩
  cases (show d = x from r1)
  cases d with
  | true => exact ⟨μ1, env, ah1, he.ext e1, s1, p1⟩
  | false => exact ⟨μ1, env, ah1, he.ext e1, s1, p1⟩
/-- code that isn't reached -/
theorem pz_never : PZ X W st (fun _ _ => .stuck) := PS.weak ps_never fun D σ H ⟨μ, env, ah, he, hs, hp⟩ => hp
theorem pzs_never : PZs X W rest (fun _ _ => .stuck) := PSs.weak pss_never fun D σ H ⟨μ, env, ah, he, hs, hp⟩ => hp

/-! ### targets: ts are the slots that are set -/
abbrev TM := D → Env → AH → Option Env
/-- σ' is σ but at ts -/
def But (ts : List Nat) (σ σ' : L2.St) : Prop := σ'.length = σ.length ∧ ∀ j, j ∉ ts → σ'[j]? = σ[j]?
def tGt (K : PySem.W.Frag) (ts : List Nat) (tm : TM) : TG := fun v σ H Q => ∃ μ env ah d env', EnvRel K μ H env σ ∧ Sim K μ H ah ∧ Rep K μ H d v ∧ tm d env ah = some env' ∧ ∀ σ', EnvRel K μ H env' σ' → But ts σ σ' → Q σ' H
def tGts (K : PySem.W.Frag) (ts : List Nat) (tm : List D → Env → AH → Option Env) : TGs := fun vs σ H Q => ∃ μ env ah ds env', EnvRel K μ H env σ ∧ Sim K μ H ah ∧ Reps K μ H ds vs ∧ tm ds env ah = some env' ∧ ∀ σ', EnvRel K μ H env' σ' → But ts σ σ' → Q σ' H
theorem PG.weak {tg : Expr} {t t' : TG} (h : PG X tg t) (k : ∀ v σ H Q, t' v σ H Q → t v σ H Q) : PG X tg t' := ⟨fun pins s σ H v u Q I r q => h.run pins s σ H v u Q I r (k v σ H Q q)⟩
theorem PGs.weak {tg : List Expr} {t t' : TGs} (h : PGs X tg t) (k : ∀ v σ H Q, t' v σ H Q → t v σ H Q) : PGs X tg t' := ⟨fun pins s σ H v u Q I r q => h.run pins s σ H v u Q I r (k v σ H Q q)⟩
def PT1 (X : Cx) (tg : Expr) (ts : List Nat) (tm : TM) : Prop := PG X tg (tGt X.K ts tm)
def PTn (X : Cx) (tg : List Expr) (ts : List Nat) (tm : List D → Env → AH → Option Env) : Prop := PGs X tg (tGts X.K ts tm)
theorem But.refl {ts : List Nat} {σ : L2.St} : But ts σ σ := ⟨rfl, fun _ _ => rfl⟩
theorem But.trans {ts us : List Nat} {σ σ1 σ2 : L2.St} (a : But ts σ σ1) (b : But us σ1 σ2) : But (ts ++ us) σ σ2 := ⟨b.1.trans a.1, fun j h => by
  rw [List.mem_append, not_or] at h
  exact (b.2 j h.2).trans (a.2 j h.1)⟩
theorem EnvRel.set {K : PySem.W.Frag} {μ : List Addr} {H : Hp} {env : Env} {σ : L2.St} {d : D} {v : V} (h : EnvRel K μ H env σ) (r : Rep K μ H d v) (i : Nat) : EnvRel K μ H (env.set i (some d)) (σ.set i (some v)) := by
  refine ⟨by simp [h.1], fun j x e => ?_⟩
  by_cases hj : i = j
  · subst hj
    have hl : i < env.length := by
      have := (List.getElem?_eq_some_iff.mp e).1
      simpa using this
    rw [List.getElem?_set_self hl] at e
    cases e
    exact ⟨v, by rw [List.getElem?_set_self (by rw [← h.1]; exact hl)], r⟩
  · rw [List.getElem?_set_ne hj] at e
    obtain ⟨w, q, rw⟩ := h.2 j x e
    exact ⟨w, by rw [List.getElem?_set_ne hj]; exact q, rw⟩
def gSet (i : Nat) : TM := fun d env _ => some (env.set i (some d))
theorem pt_name {i : Nat} {x : Str} (hN : X.N.Nodup) (hi : X.N[i]? = some x) (hx : Loc X.env.scope x) (hf : X.fn x = true ∨ X.env.scope.names.lookup x = some .local := by first | exact .inl rfl | exact .inr rfl | assumption) : PT1 X (.Name x pos) [i] (gSet i) := by
  refine PG.weak (pg_name hN hi hx hf) fun v σ H Q ⟨μ, env, ah, d, env', he, hs, r, e, q⟩ => ?_
  cases e
  exact q _ (he.set r i) ⟨by simp, fun j h => List.getElem?_set_ne (by intro z; exact h (by simp [z]))⟩
def gNilD : List D → Env → AH → Option Env := fun ds env _ => match ds with
  | [] => some env
  | _ => none
def gConsD (t : TM) (u : List D → Env → AH → Option Env) : List D → Env → AH → Option Env := fun ds env ah => match ds with
  | d :: r => (t d env ah).bind fun env1 => u r env1 ah
  | [] => none
theorem ptn_nil : PTn X [] [] gNilD := by
  refine PGs.weak pgs_nil fun v σ H Q ⟨μ, env, ah, ds, env', he, hs, r, e, q⟩ => ?_
  unfold gNilD at e
  split at e
  · cases e
    simp only [Reps] at r
    exact ⟨r, q _ he But.refl⟩
  · cases e
theorem ptn_cons {t : TM} {ts us : List Nat} {u : List D → Env → AH → Option Env} (h1 : PT1 X e ts t) (h2 : PTn X es us u) (hs : (assignEach (e :: es) X.env).map (·.2) = assign e X.env :: (assignEach es X.env).map (·.2) := by rfl) : PTn X (e :: es) (ts ++ us) (gConsD t u) := by
  refine PGs.weak (pgs_cons h1 h2 hs) fun v σ H Q ⟨μ, env, ah, ds, env', he, hs, r, eq, q⟩ => ?_
  unfold gConsD at eq
  split at eq
  · obtain ⟨env1, e1, e2⟩ := Option.bind_eq_some_iff.mp eq
    simp only [Reps] at r
    obtain ⟨w, ws, rfl, r1, r2⟩ := r
    exact ⟨w, ws, rfl, μ, env, ah, _, env1, he, hs, r1, e1, fun σ1 he1 b1 => ⟨μ, env1, ah, _, env', he1, hs, r2, e2, fun σ2 he2 b2 => q σ2 he2 (b1.trans b2)⟩⟩
  · cases eq
/-- a tuple taken apart -/
def gTupD (n : Nat) (u : List D → Env → AH → Option Env) : TM := fun d env ah => match d with
  | .tup ds => if ds.length = n then u ds env ah else none
  | _ => none
theorem pt_tup {j : Nat} {ts : List Nat} {u : List D → Env → AH → Option Env} {n : Nat} (hc : X.calm = true) (h : PTn X es ts u) (hn : (assignEach es X.env).length = n := by rfl) (hst : (assignEach es X.env).findIdx? (·.1) = none := by rfl) : PT1 X (.Tuple es j pos) ts (gTupD n u) := by
  refine PG.weak (pg_tup hc h hn hst) fun v σ H Q ⟨μ, env, ah, d, env', he, hs, r, eq, q⟩ => ?_
  unfold gTupD at eq
  split at eq
  · split at eq
    · rename_i hl
      obtain ⟨a, vs, rfl, q1, r1⟩ := d_tup r
      exact ⟨a, vs, rfl, q1, by rw [← r1.length]; exact hl, μ, env, ah, _, env', he, hs, r1, eq, q⟩
    · cases eq
  · cases eq
def sAsg (m : EM D) (t : TM) : SM := fun env ah => (m env ah).thenS env fun d ah1 => match t d env ah1 with
  | some env1 => .nx env1 ah1
  | none => .stuck
theorem asg_step {t : TM} {ts : List Nat} {D : Ends} {σ : L2.St} {H : Hp} (h : tS X.K W (sAsg m t) D σ H) : tAsg (tG X.K (RD X.K) W m) (tGt X.K ts t) D σ H := by
  obtain ⟨μ, env, ah, he, hs, hp⟩ := h
  refine ⟨μ, env, ah, he, hs, PostS.bind hp he fun d ah1 μ1 x H1 e1 s1 r1 p1 => ?_⟩
  split at p1
  · rename_i env1 eq
    exact ⟨μ1, env, ah1, d, env1, he.ext e1, s1, r1, eq, fun σ' he' _ => post_next p1 s1 he'⟩
  · exact p1.elim
theorem pz_asg {tg : Expr} {t : TM} {ts : List Nat} (h : PD X W e m) (hg : PT1 X tg ts t) (hs : swapsWithSole [tg] e pos.line X.env = pure false := by rfl) (hw : swappedStores [tg] e X.env = pure none := by rfl) (h1 : (assignEach [tg] X.env).map (·.2) = [assign tg X.env] := by rfl) : PZ X W (.Assign [tg] e pos) (sAsg m t) :=
  PS.weak (ps_asg h hg hs hw h1) fun _ _ _ q => asg_step q
theorem pz_set {i : Nat} {x : Str} {pos' : Pos} (hN : X.N.Nodup) (hi : X.N[i]? = some x) (hx : Loc X.env.scope x) (h : PD X W e m) (hs : swapsWith e (some (.Name x pos')) pos.line X.env = pure false := by rfl) (hf : X.fn x = true ∨ X.env.scope.names.lookup x = some .local := by first | exact .inl rfl | exact .inr rfl | assumption) : PZ X W (.Assign [.Name x pos'] e pos) (sAsg m (gSet i)) := by
  refine PS.weak (ps_set hN hi hx h hs hf) fun D σ H q => ?_
  obtain ⟨μ, env, ah, he, hs, hp⟩ := q
  refine ⟨μ, env, ah, he, hs, PostS.bind hp he fun d ah1 μ1 x H1 e1 s1 r1 p1 => ?_⟩
  exact post_next p1 s1 ((he.ext e1).set r1 i)
/-- a, b = x, y -/
def sPar (i j : Nat) (ml : EM (List D)) : SM := fun env ah => (ml env ah).thenS env fun ds ah1 => match ds with
  | [x, y] => .nx ((env.set i (some x)).set j (some y)) ah1
  | _ => .stuck
end
end HA

/-! HA9: what is walked, for, while, list comprehensions. -/
namespace HA
open PySem PySem.Spec PyProof.Rows L2

/-- what is walked: its items; the lists that must stand as they stood -/
structure Itm where
  items : List D
  guard : List (Nat × List D)
def Itm.okIn (t : Itm) (ah : AH) : Bool := t.guard.all fun p => decide (listAt ah p.1 = some p.2)
def ItOk (K : PySem.W.Frag) (μ : List Addr) (H : Hp) (t : Itm) (J : It) : Prop := ∀ (i : Nat) μ' H' ah', Ext K μ H μ' H' → Sim K μ' H' ah' → t.okIn ah' = true →
  (t.items.length ≤ i → J.stop i H') ∧ ∀ d, t.items[i]? = some d → J.go i H' ∧ ∀ x H'', J.yld i H' x H'' → Ext K μ' H' μ' H'' ∧ Sim K μ' H'' ah' ∧ Rep K μ' H'' d x
def RI (K : PySem.W.Frag) : Rel Itm It := ⟨fun _ μ H t J => ItOk K μ H t J, fun _ h => h⟩
theorem ItOk.ext {K : PySem.W.Frag} {μ μ1 : List Addr} {H H1 : Hp} {t : Itm} {J : It} (h : ItOk K μ H t J) (e : Ext K μ H μ1 H1) : ItOk K μ1 H1 t J := fun i μ' H' ah' e' => h i μ' H' ah' (e.trans e')
def PF (X : Cx) (W : WX) (tg iter : Expr) (mi : EM Itm) : Prop := PI X tg iter (tG X.K (RI X.K) W mi)
theorem PI.weak {X : Cx} {tg iter : Expr} {w w' : TI} (h : PI X tg iter w) (k : ∀ σ H R, w' σ H R → w σ H R) : PI X tg iter w' := ⟨fun pins s σ H R I q => h.run pins s σ H R I (k σ H R q)⟩
section
variable {X : Cx} {W : WX} {k : Nat} {e : Expr} {tg : Expr} {es : List Expr} {m : EM D} {ml : EM (List D)} {pos : Pos}
theorem itl_ok {K : PySem.W.Frag} {μ : List Addr} {H : Hp} {a : Addr} {ds : List D} {t : Itm} (ht : t.items = ds) (h : ∀ μ' H' ah', Ext K μ H μ' H' → Sim K μ' H' ah' → t.okIn ah' = true → ∃ vs, SqL K H' a vs ∧ Reps K μ' H' ds vs) : ItOk K μ H t (Itl K a) := by
  intro i μ' H' ah' e S o
  obtain ⟨vs, q, r⟩ := h μ' H' ah' e S o
  subst ht
  refine ⟨fun hl => ⟨vs, q, by rw [← r.length]; exact hl⟩, fun d ed => ?_⟩
  obtain ⟨v, ev, rv⟩ := r.get ed
  refine ⟨⟨vs, v, q, ev⟩, fun x H'' y => ?_⟩
  obtain ⟨eH, y⟩ := y
  subst eH
  have z := y vs q
  rw [ev] at z; cases z
  exact ⟨Ext.refl, S, rv⟩
theorem itt_ok {K : PySem.W.Frag} {μ : List Addr} {H : Hp} {a : Addr} {ds : List D} {vs : List V} (q : SqT K H a vs) (r : Reps K μ H ds vs) : ItOk K μ H ⟨ds, []⟩ (Itt K a) := by
  intro i μ' H' ah' e S o
  have q := e.tup a vs q
  have r := r.ext e
  refine ⟨fun hl => ⟨vs, q, by rw [← r.length]; exact hl⟩, fun d ed => ?_⟩
  obtain ⟨v, ev, rv⟩ := r.get ed
  refine ⟨⟨vs, v, q, ev⟩, fun x H'' y => ?_⟩
  obtain ⟨eH, y⟩ := y
  subst eH
  have z := y vs q
  rw [ev] at z; cases z
  exact ⟨Ext.refl, S, rv⟩
/-- a new list, walked -/
def iNew (m : EM (List D)) : EM Itm := e1 m fun ds ah => .ok ⟨ds, []⟩ ah
theorem pf_l (h : PL X W e ml) : PF X W tg e (iNew ml) := by
  refine PI.weak (pi_list h) fun σ H R ⟨μ, env, ah, he, hs, hp⟩ => ?_
  refine ⟨μ, env, ah, he, hs, hp.bind fun ds ah1 μ1 x H1 e1 s1 r1 p1 => ?_⟩
  obtain ⟨a, vs, rfl, _, q, hm, r⟩ := r1
  refine ⟨a, rfl, ⟨vs, SqL.of q⟩, Post.ok1 (R := RI X.K) p1 s1 ?_⟩
  exact itl_ok rfl fun μ' H' ah' e S _ => ⟨vs, SqL.of (e.keep a _ hm q), r.ext e⟩
/-- a tuple or a list of ours, walked -/
def iVal (d : D) (ah : AH) : Res Itm := match d with
  | .tup ds => .ok ⟨ds, []⟩ ah
  | .ref n => match listAt ah n with
    | some ds => .ok ⟨ds, [(n, ds)]⟩ ah
    | none => .stuck
  | _ => .stuck
theorem pf_d (h : PD X W e m) : PF X W tg e (e1 m iVal) := by
  have two : PI X tg e (fun σ H R => iTup X.K (tG X.K (RD X.K) W m) σ H R) := pi_tup h
  have one : PI X tg e (fun σ H R => iList X.K (tG X.K (RD X.K) W m) σ H R) := pi_list h
  have both : PI X tg e (fun σ H R => iTup X.K (tG X.K (RD X.K) W m) σ H R ∨ iList X.K (tG X.K (RD X.K) W m) σ H R) := ⟨fun pins s σ H R I q => q.elim (two.run pins s σ H R I) (one.run pins s σ H R I)⟩
  refine PI.weak both fun σ H R ⟨μ, env, ah, he, hs, hp⟩ => ?_
  cases q : m env ah with
  | stuck => unfold e1 at hp; rw [q] at hp; exact hp.elim
  | exn c fs ah1 =>
    left
    unfold e1 at hp; rw [q] at hp
    exact ⟨μ, env, ah, he, hs, by rw [q]; exact hp⟩
  | ok d ah1 =>
    unfold e1 at hp; rw [q] at hp
    cases d with
    | tup ds =>
      left
      refine ⟨μ, env, ah, he, hs, ?_⟩
      rw [q]
      intro μ1 x H1 e1 s1 r1
      obtain ⟨a, vs, rfl, q2, r2⟩ := d_tup (show Rep X.K μ1 H1 (.tup ds) x from r1)
      exact ⟨a, rfl, ⟨vs, q2⟩, Post.ok1 (R := RI X.K) (Post.ext e1 hp) s1 (itt_ok q2 r2)⟩
    | ref n =>
      right
      refine ⟨μ, env, ah, he, hs, ?_⟩
      rw [q]
      intro μ1 x H1 e1 s1 r1
      obtain ⟨a, ea, rfl⟩ := d_ref (show Rep X.K μ1 H1 (.ref n) x from r1)
      unfold iVal at hp
      rw [Res.bind_ok] at hp
      dsimp only at hp
      split at hp
      · rename_i ds el
        obtain ⟨b, vs, eb, q2, r2⟩ := s1.list el
        rw [ea] at eb; cases eb
        refine ⟨a, rfl, ⟨vs, q2⟩, Post.ok1 (R := RI X.K) (Post.ext e1 hp) s1 ?_⟩
        refine itl_ok rfl fun μ' H' ah' e S o => ?_
        have z : listAt ah' n = some ds := by
          simp only [Itm.okIn, List.all_cons, List.all_nil, Bool.and_true, decide_eq_true_eq] at o
          exact o
        obtain ⟨b, ws, eb, q3, r3⟩ := S.list z
        rw [pre_get e.pre ea] at eb; cases eb
        exact ⟨ws, q3, r3⟩
      · exact hp.elim
    | _ => exact hp.elim
/-- range(n), range(a, b) -/
def iRange1 (d : D) (ah : AH) : Res Itm := match d with
  | .int j => if -(2 ^ 62) ≤ j ∧ j < 2 ^ 62 then .ok ⟨(List.range j.toNat).map fun (i : Nat) => D.int i, []⟩ ah else .stuck
  | _ => .stuck
def iRange2 (d f : D) (ah : AH) : Res Itm := match d, f with
  | .int i, .int j => if -(2 ^ 62) ≤ i ∧ i < 2 ^ 62 ∧ -(2 ^ 62) ≤ j ∧ j < 2 ^ 62 then .ok ⟨(List.range (j - i).toNat).map fun (n : Nat) => D.int (i + n), []⟩ ah else .stuck
  | _, _ => .stuck
theorem itr_ok {K : PySem.W.Frag} {μ : List Addr} {H : Hp} {lo : Int} {n : Nat} {f : Nat → D} (hf : ∀ i, f i = .int (lo + i)) : ItOk K μ H ⟨(List.range n).map f, []⟩ (Itr lo n) := by
  intro i μ' H' ah' e S o
  refine ⟨fun hl => (show n ≤ i by simpa using hl), fun d ed => ?_⟩
  rw [List.getElem?_map] at ed
  have hi : i < n := by
    cases q : (List.range n)[i]? with
    | none => rw [q] at ed; cases ed
    | some j => have := (List.getElem?_eq_some_iff.mp q).1; simpa using this
  refine ⟨hi, fun x H'' y => ?_⟩
  obtain ⟨eH, ex⟩ := y
  subst eH ex
  rw [List.getElem?_range hi, Option.map_some, hf] at ed
  cases ed
  exact ⟨Ext.refl, S, by simp only [Rep]⟩
theorem pf_range1 {a : Expr} {p : Pos} {ma : EM D} (hg : Gl X "range") (hm : X.mg "range" = none) (ha : PD X W a ma) (hs : starEach [a] X.env = [(false, eval a X.env)] := by rfl) : PF X W tg (.Call (.Name "range" p) [a] [] pos) (e1 ma iRange1) := by
  refine PI.weak (pi_range1 hg hm (pa_cons ha pa_nil hs) hs) fun σ H R ⟨μ, env, ah, he, hs, hp⟩ => ?_
  refine ⟨μ, env, ah, he, hs, hp.bind fun d ah1 μ1 x H1 e1 s1 r1 p1 => ?_⟩
  unfold iRange1 at p1
  split at p1
  · rename_i j
    split at p1
    · rename_i hl
      rw [d_int (show Rep X.K μ1 H1 (.int j) x from r1)]
      exact ⟨j, rfl, hl.1, hl.2, Post.ok1 (R := RI X.K) p1 s1 (itr_ok fun i => by rw [Int.zero_add])⟩
    · exact p1.elim
  · exact p1.elim
theorem pf_range2 {a b : Expr} {p : Pos} {ma mb : EM D} (hg : Gl X "range") (hm : X.mg "range" = none) (ha : PD X W a ma) (hb : PD X W b mb) (hs : starEach [a, b] X.env = [(false, eval a X.env), (false, eval b X.env)] := by rfl) (hs2 : starEach [b] X.env = [(false, eval b X.env)] := by rfl) : PF X W tg (.Call (.Name "range" p) [a, b] [] pos) (e2 ma mb iRange2) := by
  refine PI.weak (pi_range2 hg hm (pa_cons ha (pa_cons hb pa_nil hs2) (by rw [hs, hs2])) hs hs2) fun σ H R ⟨μ, env, ah, he, hs, hp⟩ => ?_
  refine ⟨μ, env, ah, he, hs, hp.bind fun d ah1 μ1 x H1 e1 s1 r1 p1 => ?_⟩
  refine tG_next he e1 s1 (p1.bind fun d2 ah2 μ2 y H2 e2 s2 r2 p2 => ?_)
  unfold iRange2 at p2
  split at p2
  · rename_i i j
    split at p2
    · rename_i hl
      rw [d_int (Rep.ext (show Rep X.K μ1 H1 (.int i) x from r1) e2), d_int (show Rep X.K μ2 H2 (.int j) y from r2)]
      exact ⟨i, j, rfl, hl, Post.ok1 (R := RI X.K) p2 s2 (itr_ok fun i => rfl)⟩
    · exact p2.elim
  · exact p2.elim

/-! ### for -/
def forLoop (t : Itm) (tm : TM) (body : SM) : List D → Env → AH → SRes
  | [], env, ah => if t.okIn ah = true then .nx env ah else .stuck
  | d :: ds, env, ah => if t.okIn ah = true then match tm d env ah with
    | some env1 => match body env1 ah with
      | .nx e a => forLoop t tm body ds e a
      | .ct e a => forLoop t tm body ds e a
      | .bk e a => .nx e a
      | r => r
    | none => .stuck else .stuck
def sFor (mi : EM Itm) (tm : TM) (body : SM) : SM := fun env ah => (mi env ah).thenS env fun t ah1 => forLoop t tm body t.items env ah1
theorem pz_for {iter : Expr} {body : List Stmt} {mi : EM Itm} {tm : TM} {ts : List Nat} {mb : SM} (hp : PassesOwn (model X.prog X.w) X.A X.env X.xe) (hc : X.calm = true) (hi : PF X W tg iter mi) (hg : PT1 X tg ts tm) (hb : PZs X W body mb)
    (hs : ∀ x, foldedSetIterable iter X.env x = pure x := by intro _; rfl) : PZ X W (.For tg iter body [] pos) (sFor mi tm mb) := by
  refine PS.weak (ps_for hp hc hi hg hb hs) fun D σ H ⟨μ, env, ah, he, hs, hp⟩ => ?_
  refine ⟨μ, env, ah, he, hs, PostS.bind hp he fun t ah1 μ1 J H1 e1 s1 r1 p1 => ?_⟩
  have ok1 : ItOk X.K μ1 H1 t J := r1
  refine ⟨fun i n σ' H' => ∃ μ' env' ah', Ext X.K μ1 H1 μ' H' ∧ Sim X.K μ' H' ah' ∧ EnvRel X.K μ' H' env' σ' ∧ PostS X.K W D μ' H' (forLoop t tm mb (t.items.drop i) env' ah') ∧ i + n = t.items.length, ⟨t.items.length, μ1, env, ah1, Ext.refl, s1, he.ext e1, by rw [List.drop_zero]; exact p1, by omega⟩, ?_⟩
  rintro i n σ' H' ⟨μ', env', ah', ex, S, er, po, hn⟩
  by_cases hi : i < t.items.length
  · have ed : t.items[i]? = some t.items[i] := List.getElem?_eq_getElem hi
    rw [List.drop_eq_getElem_cons hi] at po
    unfold forLoop at po
    split at po
    · rename_i okb
      obtain ⟨_, ok2⟩ := ok1 i μ' H' ah' ex S okb
      obtain ⟨go, yl⟩ := ok2 _ ed
      refine .inr ⟨go, _, fun σ2 H2 h => ⟨n - 1, by omega, h⟩, fun x H'' y => ?_⟩
      obtain ⟨ex2, S2, rx⟩ := yl x H'' y
      split at po
      · rename_i env1 et
        refine ⟨μ', env', ah', _, env1, er.ext ex2, S2, rx, et, fun σ3 he3 _ => ⟨μ', env1, ah', he3, S2, ?_⟩⟩
        have fin : ∀ {μ5 : List Addr} {H5 : Hp} {σ5 : L2.St} {e5 : Env} {a5 : AH}, Ext X.K μ' H'' μ5 H5 → Sim X.K μ5 H5 a5 → EnvRel X.K μ5 H5 e5 σ5 → PostS X.K W D μ' H' (forLoop t tm mb (t.items.drop (i + 1)) e5 a5) →
            ∃ μ' env' ah', Ext X.K μ1 H1 μ' H5 ∧ Sim X.K μ' H5 ah' ∧ EnvRel X.K μ' H5 env' σ5 ∧ PostS X.K W D μ' H5 (forLoop t tm mb (t.items.drop (i + 1)) env' ah') ∧ i + 1 + (n - 1) = t.items.length := fun x5 s5 r5 p5 =>
          ⟨_, _, _, (ex.trans ex2).trans x5, s5, r5, PostS.ext (ex2.trans x5) p5, by omega⟩
        cases q : mb env1 ah' with
        | nx e5 a5 => rw [q] at po; exact fun μ5 σ5 H5 x5 s5 r5 => fin x5 s5 r5 po
        | ct e5 a5 => rw [q] at po; exact fun μ5 σ5 H5 x5 s5 r5 => fin x5 s5 r5 po
        | bk e5 a5 => rw [q] at po; exact fun μ5 σ5 H5 x5 s5 r5 => po μ5 σ5 H5 (ex2.trans x5) s5 r5
        | rt d5 a5 => rw [q] at po; exact fun μ5 v5 H5 x5 s5 r5 => po μ5 v5 H5 (ex2.trans x5) s5 r5
        | exn c5 f5 e5 a5 => rw [q] at po; exact fun μ5 σ5 H5 od x5 s5 r5 z5 => po μ5 σ5 H5 od (ex2.trans x5) s5 r5 z5
        | stuck => rw [q] at po; exact po
      · exact po.elim
    · exact po.elim
  · have e0 : t.items.drop i = [] := List.drop_eq_nil_of_le (by omega)
    rw [e0] at po
    unfold forLoop at po
    split at po
    · rename_i okb
      exact .inl ⟨(ok1 i μ' H' ah' ex S okb).1 (by omega), post_next po S er⟩
    · exact po.elim

/-! ### while, by a bound of turns that the mirror is given -/
def whLoop (c : EM Bool) (body : SM) : Nat → Env → AH → SRes
  | 0, _, _ => .stuck
  | n + 1, env, ah => (c env ah).thenS env fun b ah1 => if b = true then match body env ah1 with
      | .nx e a => whLoop c body n e a
      | .ct e a => whLoop c body n e a
      | .bk e a => .nx e a
      | r => r else .nx env ah1
theorem pz_while {c : Expr} {body : List Stmt} {mc : EM Bool} {mb : SM} (N : Nat) (hp : PassesOwn (model X.prog X.w) X.A X.env X.xe) (hc : PB X W c mc) (hb : PZs X W body mb) : PZ X W (.While c body [] pos) (whLoop mc mb N) := by
  refine PS.weak (ps_while hp hc hb) fun D σ H ⟨μ, env, ah, he, hs, hp⟩ => ?_
  refine ⟨fun n σ' H' => ∃ μ' env' ah', Ext X.K μ H μ' H' ∧ Sim X.K μ' H' ah' ∧ EnvRel X.K μ' H' env' σ' ∧ PostS X.K W D μ' H' (whLoop mc mb n env' ah'), ⟨N, μ, env, ah, Ext.refl, hs, he, hp⟩, ?_⟩
  rintro n σ' H' ⟨μ', env', ah', ex, S, er, po⟩
  cases n with
  | zero => exact po.elim
  | succ n =>
    unfold whLoop at po
    refine ⟨μ', env', ah', er, S, PostS.bind po er fun b ah1 μ1 x H1 e1 s1 r1 p1 => ?_⟩
    cases (show b = x from r1)
    cases b with
    | false => exact post_next p1 s1 (er.ext e1)
    | true =>
      refine ⟨_, fun σ2 H2 h => ⟨n, by omega, h⟩, μ1, env', ah1, er.ext e1, s1, ?_⟩
      rw [if_pos rfl] at p1
      have fin : ∀ {μ5 : List Addr} {H5 : Hp} {σ5 : L2.St} {e5 : Env} {a5 : AH}, Ext X.K μ1 H1 μ5 H5 → Sim X.K μ5 H5 a5 → EnvRel X.K μ5 H5 e5 σ5 → PostS X.K W D μ1 H1 (whLoop mc mb n e5 a5) →
          ∃ μ' env' ah', Ext X.K μ H μ' H5 ∧ Sim X.K μ' H5 ah' ∧ EnvRel X.K μ' H5 env' σ5 ∧ PostS X.K W D μ' H5 (whLoop mc mb n env' ah') := fun x5 s5 r5 p5 => ⟨_, _, _, (ex.trans e1).trans x5, s5, r5, PostS.ext x5 p5⟩
      cases q : mb env' ah1 with
      | nx e5 a5 => rw [q] at p1; exact fun μ5 σ5 H5 x5 s5 r5 => fin x5 s5 r5 p1
      | ct e5 a5 => rw [q] at p1; exact fun μ5 σ5 H5 x5 s5 r5 => fin x5 s5 r5 p1
      | bk e5 a5 => rw [q] at p1; exact p1
      | rt d5 a5 => rw [q] at p1; exact p1
      | exn c5 f5 e5 a5 => rw [q] at p1; exact p1
      | stuck => rw [q] at p1; exact p1
end
end HA

/-! HA10: list comprehensions (one clause). -/
namespace HA
open PySem PySem.Spec PyProof.Rows L2

/-- nothing is raised within a comprehension -/
def W0 : WX := fun _ _ _ _ => False
def wipeE (env : Env) : List Nat → Env
  | [] => env
  | v :: vs => (wipeE env vs).set v none
theorem wipe_rel {K : PySem.W.Frag} {μ : List Addr} {H : Hp} {env : Env} {σ : L2.St} (h : EnvRel K μ H env σ) : ∀ vs, EnvRel K μ H (wipeE env vs) (wipe σ vs)
  | [] => h
  | v :: vs => by
    have q := wipe_rel h vs
    refine ⟨by simp [wipeE, wipe, q.1], fun j d e => ?_⟩
    unfold wipeE at e
    unfold wipe
    by_cases hj : v = j
    · subst hj
      have hl : v < (wipeE env vs).length := by
        have := (List.getElem?_eq_some_iff.mp e).1
        simpa using this
      rw [List.getElem?_set_self hl] at e
      cases e
    · rw [List.getElem?_set_ne hj] at e
      obtain ⟨w, x, y⟩ := q.2 j d e
      exact ⟨w, by rw [List.getElem?_set_ne hj]; exact x, y⟩
theorem wipe_at (σ : L2.St) : ∀ (vs : List Nat) (j : Nat), (wipe σ vs)[j]? = if j ∈ vs ∧ j < σ.length then some none else σ[j]?
  | [], j => by simp [wipe]
  | v :: vs, j => by
    unfold wipe
    by_cases hj : v = j
    · subst hj
      by_cases hl : v < σ.length
      · rw [List.getElem?_set_self (by rw [wipe_length]; exact hl)]; simp [hl]
      · rw [List.getElem?_eq_none (by rw [List.length_set, wipe_length]; omega)]
        simp [hl]
    · rw [List.getElem?_set_ne hj, wipe_at σ vs j]
      have : j ∈ v :: vs ↔ j ∈ vs := by
        rw [List.mem_cons]
        exact ⟨fun h => h.elim (fun z => absurd z.symm hj) id, .inr⟩
      simp only [this]
/-- a target within the wiped slots -/
theorem wipe_but {ts vs : List Nat} {σ σ' : L2.St} (h : But ts σ σ') (hs : ∀ j ∈ ts, j ∈ vs) : wipe σ' vs = wipe σ vs := by
  apply List.ext_getElem?
  intro j
  rw [wipe_at, wipe_at, h.1]
  by_cases hj : j ∈ vs ∧ j < σ.length
  · rw [if_pos hj, if_pos hj]
  · rw [if_neg hj, if_neg hj]
    by_cases hm : j ∈ ts
    · have : ¬ j < σ.length := fun z => hj ⟨hs j hm, z⟩
      rw [List.getElem?_eq_none (by rw [h.1]; omega), List.getElem?_eq_none (by omega)]
    · exact h.2 j hm
theorem wipe_wipe (σ : L2.St) (vs : List Nat) : wipe (wipe σ vs) vs = wipe σ vs := by
  apply List.ext_getElem?
  intro j
  rw [wipe_at, wipe_at, wipe_length]
  split
  · rfl
  · rfl
/-- the new list grows, that is no object of ours -/
theorem Sim.foreign {K : PySem.W.Frag} {μ : List Addr} {H : Hp} {ah : AH} (S : Sim K μ H ah) {p : Addr} {u : HO} {vs : List V} (hm : p ∉ μ.tail) (hp : H p = some (.lst vs)) : Sim K μ (upd H p u) ah := by
  have mu : Mut (H p) := by rw [hp]; trivial
  refine ⟨S.len, S.nd, fun n a o e1 e2 => ?_, S.pos, S.ro0⟩
  refine (S.ok n a o e1 e2).mono (List.prefix_refl _) (TExt.mut mu) (fun q => ?_) fun ob v z => ?_
  · refine upd_ne fun z => ?_
    subst z
    have hn : n ≠ 0 := fun z => by
      have := (S.ro0 n o e2).mpr z
      rw [q] at this; cases this
    obtain ⟨k, rfl⟩ : ∃ k, n = k + 1 := ⟨n - 1, by omega⟩
    exact hm (List.mem_of_getElem? (i := k) (by rw [List.getElem?_tail]; exact e1))
  · rw [upd_ne fun w => by subst w; rw [hp] at z; cases z]; exact z
theorem Ext.foreign {K : PySem.W.Frag} {μ μ1 : List Addr} {H H1 : Hp} {p : Addr} {u : HO} {vs : List V} (e : Ext K μ H μ1 H1) (h0 : H p = none) (hp : H1 p = some (.lst vs)) : Ext K μ H μ1 (upd H1 p u) where
  pre := e.pre
  tup := e.tup.trans (TExt.mut (by rw [hp]; trivial))
  new := e.new
  keep := fun a o hm h => by
    rw [upd_ne (fun z => by subst z; rw [h0] at h; cases h)]
    exact e.keep a o hm h
  there := fun a h => e.there a (there_upd a h)

def lcLoop (t : Itm) (tm : TM) (test : EM Bool) (elt : EM D) (vs : List Nat) (env : Env) : List D → List D → AH → Res (List D)
  | [], acc, ah => if t.okIn ah = true then .ok acc ah else .stuck
  | d :: ds, acc, ah => if t.okIn ah = true ∧ acc.length < line then match tm d (wipeE env vs) ah with
    | some env1 => match test env1 ah with
      | .ok true ah1 => match elt env1 ah1 with
        | .ok y ah2 => lcLoop t tm test elt vs env ds (acc ++ [y]) ah2
        | _ => .stuck
      | .ok false ah1 => lcLoop t tm test elt vs env ds acc ah1
      | _ => .stuck
    | none => .stuck else .stuck
def lLc (mi : EM Itm) (tm : TM) (test : EM Bool) (elt : EM D) (vs : List Nat) : EM (List D) := fun env ah => (mi env ah).bind fun t ah1 => lcLoop t tm test elt vs env t.items [] ah1
section
variable {X : Cx} {W : WX}
def PTsD (X : Cx) (W : WX) (ifs : List Expr) (m : EM Bool) : Prop := PTs X ifs (tG X.K RB W m)
def bYes : EM Bool := fun _ ah => .ok true ah
theorem PTs.weak {ifs : List Expr} {t t' : TT} (h : PTs X ifs t) (k : ∀ σ H Q, t' σ H Q → t σ H Q) : PTs X ifs t' := ⟨fun pins s σ H Q I q => h.run pins s σ H Q I (k σ H Q q)⟩
theorem ptsd_nil : PTsD X W [] bYes := PTs.weak pts_nil fun σ H Q ⟨μ, env, ah, he, hs, hp⟩ => Post.ok1 (R := RB) hp hs rfl
theorem ptsd_one {c : Expr} {m : EM Bool} (h : PB X W c m) : PTsD X W [c] m := pts_one h
theorem Post.only {β γ : Type} {K : PySem.W.Frag} {R : Rel β γ} {Wx : Value → Option Addr → Hp → Prop} {μ : List Addr} {H : Hp} {Q : γ → Hp → Prop} {r : Res β} {d : β} {ah : AH} (e : r = .ok d ah) (h : ∀ μ' x H', Ext K μ H μ' H' → Sim K μ' H' ah → R.r H μ' H' d x → Q x H') : Post K R Wx μ H Q r := by rw [e]; exact h
theorem lc_step {σ : L2.St} {H : Hp} {Q : VK} {mi : EM Itm} {ts vs : List Nat} {tm : TM} {mt : EM Bool} {me : EM D} (hts : ∀ j ∈ ts, j ∈ vs) (h : tG X.K (RL X.K) W (lLc mi tm mt me vs) σ H Q) :
    tLc (tG X.K (RI X.K) W mi) (tGt X.K ts tm) (tG X.K RB W0 mt) (tG X.K (RD X.K) W0 me) vs σ H Q := by
  obtain ⟨μ, env, ah, he, hs, hp⟩ := h
  refine ⟨μ, env, ah, he, hs, hp.bind0 fun t ah1 μ1 J H1 e1 s1 r1 p1 => ?_⟩
  have ok1 : ItOk X.K μ1 H1 t J := r1
  intro p np
  have p1 := Post.ext e1 p1
  have h0 : H p = none := e1.there p np
  refine ⟨fun i n H' => ∃ μ' ah' acc avs, Ext X.K μ1 H1 μ' H' ∧ Sim X.K μ' H' ah' ∧ H' p = some (.lst avs) ∧ p ∉ μ'.tail ∧ Reps X.K μ' H' acc avs ∧ Post X.K (RL X.K) (fun c d H' => W c d σ H') μ1 H1 Q (lcLoop t tm mt me vs env (t.items.drop i) acc ah') ∧ i + n = t.items.length,
    ⟨t.items.length, μ1, ah1, [], [], Ext.other np, s1.other np, upd_same, s1.free np, Reps.nil, by rw [List.drop_zero]; exact p1, by omega⟩, ?_⟩
  rintro i n H' ⟨μ', ah', acc, avs, ex, S, hD, hm, ra, po, hn⟩
  have wf : ∀ {μ5 : List Addr} {H5 : Hp}, Ext X.K μ' H' μ5 H5 → H5 p = some (.lst avs) ∧ p ∉ μ5.tail := fun {μ5 H5} x5 => by
    refine ⟨x5.keep p _ hm hD, fun z => ?_⟩
    rcases x5.new p z with w | w
    · exact hm w
    · rw [hD] at w; cases w
  by_cases hi : i < t.items.length
  · have ed : t.items[i]? = some t.items[i] := List.getElem?_eq_getElem hi
    rw [List.drop_eq_getElem_cons hi] at po
    unfold lcLoop at po
    split at po
    · rename_i okb
      obtain ⟨go, yl⟩ := (ok1 i μ' H' ah' ex S okb.1).2 _ ed
      refine .inr ⟨go, _, fun H2 h => ⟨n - 1, by omega, h⟩, fun x H'' y => ?_⟩
      obtain ⟨ex2, S2, rx⟩ := yl x H'' y
      split at po
      · rename_i env1 et
        refine ⟨μ', wipeE env vs, ah', _, env1, (wipe_rel (he.ext (e1.trans (ex.trans ex2))) vs), S2, rx, et, fun σ2 he2 b2 => ?_⟩
        refine ⟨by rw [wipe_but b2 hts, wipe_wipe], ?_⟩
        have nxt : ∀ {μ5 : List Addr} {H5 : Hp} {a5 : AH}, Ext X.K μ' H'' μ5 H5 → Sim X.K μ5 H5 a5 → Post X.K (RL X.K) (fun c d H' => W c d σ H') μ1 H1 Q (lcLoop t tm mt me vs env (t.items.drop (i + 1)) acc a5) →
            ∃ μ' ah' acc avs, Ext X.K μ1 H1 μ' H5 ∧ Sim X.K μ' H5 ah' ∧ H5 p = some (.lst avs) ∧ p ∉ μ'.tail ∧ Reps X.K μ' H5 acc avs ∧ Post X.K (RL X.K) (fun c d H' => W c d σ H') μ1 H1 Q (lcLoop t tm mt me vs env (t.items.drop (i + 1)) acc ah') ∧ i + 1 + (n - 1) = t.items.length := fun {μ5 H5 a5} x5 s5 p5 =>
          let ⟨w1, w2⟩ := wf (ex2.trans x5)
          ⟨μ5, a5, acc, avs, (ex.trans ex2).trans x5, s5, w1, w2, ra.ext (ex2.trans x5), p5, by omega⟩
        cases qt : mt env1 ah' with
        | ok b ah2 =>
          rw [qt] at po
          cases b with
          | false =>
            refine ⟨μ', env1, ah', he2, S2, Post.only qt fun μ3 b3 H3 x3 s3 r3 => ?_⟩
            cases (show false = b3 from r3)
            rw [if_neg Bool.false_ne_true]
            exact nxt x3 s3 po
          | true =>
            refine ⟨μ', env1, ah', he2, S2, Post.only qt fun μ3 b3 H3 x3 s3 r3 => ?_⟩
            cases (show true = b3 from r3)
            rw [if_pos rfl]
            dsimp only at po
            cases qe : me env1 ah2 with
            | ok y ah3 =>
              rw [qe] at po
              refine ⟨μ3, env1, ah2, he2.ext x3, s3, Post.only qe fun μ4 y4 H4 x4 s4 r4 => ?_⟩
              obtain ⟨w1, w2⟩ := wf ((ex2.trans x3).trans x4)
              have ry : Rep X.K μ4 H4 y y4 := r4
              have ra4 := ra.ext ((ex2.trans x3).trans x4)
              refine ⟨avs, w1, Nat.lt_of_lt_of_le (by rw [← ra.length]; exact okb.2) (line_le (Nat.le_refl _)), μ4, ah3, acc ++ [y], avs ++ [y4], Ext.foreign (((ex.trans ex2).trans x3).trans x4) np w1, s4.foreign w2 w1, upd_same, w2, ?_, po, by omega⟩
              have tx : TExt X.K H4 (upd H4 p (.lst (avs ++ [y4]))) := TExt.mut (by rw [w1]; trivial)
              exact Reps.append (Reps.mono (List.prefix_refl _) tx _ _ ra4) (Reps.cons (Rep.mono (List.prefix_refl _) tx _ _ ry) Reps.nil)
            | exn c fs a3 => rw [qe] at po; exact po.elim
            | stuck => rw [qe] at po; exact po.elim
        | exn c fs a3 => rw [qt] at po; exact po.elim
        | stuck => rw [qt] at po; exact po.elim
      · exact po.elim
    · exact po.elim
  · have ez : t.items.drop i = [] := List.drop_eq_nil_of_le (by omega)
    rw [ez] at po
    unfold lcLoop at po
    split at po
    · rename_i okb
      refine .inl ⟨(ok1 i μ' H' ah' ex S okb).1 (by omega), ?_⟩
      exact po μ' _ H' ex S ⟨p, avs, rfl, np, hD, hm, ra⟩
    · exact po.elim
variable {elt tg iter : Expr} {ifs : List Expr} {scope : Scope} {own : List (Str × Nat)} {pos : Pos} {mi : EM Itm} {tm : TM} {ts : List Nat} {mt : EM Bool} {me : EM D}
theorem pl_lc (hc : X.calm = true) (hN : X.N.Nodup) (hi : PF X W tg iter mi) (ok : BlkOk X.N X.env.scope scope own) (hts : ∀ j ∈ ts, j ∈ own.map (·.2))
    (hg : ∀ (s : Shared) (H : Hp) (C : Addr) (cl : List (Str × Addr)) (fp : List Addr), PT1 (X.blk s H scope (compEnvC scope cl C X.env) fp) tg ts tm) (ht : ∀ (s : Shared) (H : Hp) (C : Addr) (cl : List (Str × Addr)) (fp : List Addr), PTsD (X.blk s H scope (compEnvC scope cl C X.env) fp) W0 ifs mt)
    (he : ∀ (s : Shared) (H : Hp) (C : Addr) (cl : List (Str × Addr)) (fp : List Addr), PD (X.blk s H scope (compEnvC scope cl C X.env) fp) W0 elt me) (hs : ∀ x, foldedSetIterable iter X.env x = pure x := by intro _; rfl) :
    PL X W (.ListComp elt [⟨tg, iter, ifs, 0⟩] scope pos) (lLc mi tm mt me (own.map (·.2))) :=
  PE.weak (pe_lc (g := tGt X.K ts tm) (tt := tG X.K RB W0 mt) (te := tG X.K (RD X.K) W0 me) hc hN hi ok hg ht he hs) fun _ _ _ q => lc_step hts q
/-- name = [..] -/
theorem pz_setLc {i : Nat} {y : Str} {py spos : Pos} (hc : X.calm = true) (hN : X.N.Nodup) (hy : X.N[i]? = some y) (hyl : X.env.scope.names.lookup y = some .local)
    (hsw : swapsWith (.ListComp elt [⟨tg, iter, ifs, 0⟩] scope pos) (some (.Name y py)) spos.line X.env = pure true) (hi : PF X W tg iter mi) (ok : BlkOk X.N X.env.scope scope own) (hts : ∀ j ∈ ts, j ∈ own.map (·.2))
    (hg : ∀ (s : Shared) (H : Hp) (C : Addr) (cl : List (Str × Addr)) (fp : List Addr), PT1 (X.blk s H scope (compEnvC scope cl C X.env) fp) tg ts tm) (ht : ∀ (s : Shared) (H : Hp) (C : Addr) (cl : List (Str × Addr)) (fp : List Addr), PTsD (X.blk s H scope (compEnvC scope cl C X.env) fp) W0 ifs mt)
    (he : ∀ (s : Shared) (H : Hp) (C : Addr) (cl : List (Str × Addr)) (fp : List Addr), PD (X.blk s H scope (compEnvC scope cl C X.env) fp) W0 elt me) (hs : ∀ x, foldedSetIterable iter X.env x = pure x := by intro _; rfl) :
    PZ X W (.Assign [.Name y py] (.ListComp elt [⟨tg, iter, ifs, 0⟩] scope pos) spos) (sAsg (eNew (lLc mi tm mt me (own.map (·.2)))) (gSet i)) := by
  refine PS.weak (ps_setLc (g := tGt X.K ts tm) (tt := tG X.K RB W0 mt) (te := tG X.K (RD X.K) W0 me) hc hN hy hyl hsw hi ok hg ht he hs) fun D σ H q => ?_
  obtain ⟨μ, env, ah, he, hs, hp⟩ := q
  refine lc_step hts ?_
  refine ⟨μ, env, ah, he, hs, ?_⟩
  have z : PostS X.K W D μ H (((lLc mi tm mt me (own.map (·.2))) env ah).thenS env fun ds ah1 => .nx (env.set i (some (.ref ah1.length))) (ah1 ++ [.lst ds])) := by
    unfold sAsg eNew e1 at hp
    cases q : (lLc mi tm mt me (own.map (·.2))) env ah with
    | ok ds ah1 => rw [q] at hp; exact hp
    | exn c fs ah1 => rw [q] at hp; exact hp
    | stuck => rw [q] at hp; exact hp
  cases q : (lLc mi tm mt me (own.map (·.2))) env ah with
  | ok ds ah1 =>
    rw [q] at z
    intro μ1 x H1 e1 s1 r1
    obtain ⟨a, vs, rfl, h0, ha, hm, r⟩ := r1
    refine z (μ1 ++ [a]) _ H1 (e1.adopt h0 s1.mpos) (s1.adopt rfl hm ⟨vs, ha, Reps.mono (List.prefix_append _ _) TExt.refl ds vs r⟩) ?_
    refine EnvRel.set (he.ext (e1.adopt h0 s1.mpos)) ?_ i
    simp only [Rep]
    exact ⟨a, by rw [← s1.len]; simp, rfl⟩
  | exn c fs ah1 => rw [q] at z; exact fun μ' H' od e' s' x => z μ' σ H' od e' s' (he.ext e') x
  | stuck => rw [q] at z; exact z
end
end HA

/-! HA10b: what a call leaves: objects that nobody can reach any more are dropped. -/
namespace HA
open PySem PySem.Spec PyProof.Rows L2

def AObj.part1 : AObj → Nat × List D × List (Key × D)
  | .lst ds => (0, ds, [])
  | .ro ds => (1, ds, [])
  | .dK kvs => (2, [], kvs)
  | .dT _ => (3, [], [])
  | .ins _ _ => (4, [], [])
def AObj.part2 : AObj → List (List Key × D) × Addr × List (Str × D)
  | .dT kvs => (kvs, 0, [])
  | .ins C fs => ([], C, fs)
  | _ => ([], 0, [])
instance : DecidableEq AObj := fun a b => decidable_of_iff (a.part1 = b.part1 ∧ a.part2 = b.part2) (by cases a <;> cases b <;> simp [AObj.part1, AObj.part2])
mutual
def D.und (n : Nat) : D → Bool
  | .ref m => decide (m < n)
  | .tup ds => D.unds n ds
  | _ => true
def D.unds (n : Nat) : List D → Bool
  | [] => true
  | d :: ds => D.und n d && D.unds n ds
end
theorem unds_all {n : Nat} : ∀ (ds : List D), D.unds n ds = ds.all (D.und n)
  | [] => rfl
  | d :: ds => by simp only [D.unds, List.all_cons, unds_all ds]
def AObj.und (n : Nat) : AObj → Bool
  | .lst ds => D.unds n ds
  | .ro ds => D.unds n ds
  | .dK kvs => D.unds n (kvs.map (·.2))
  | .dT kvs => D.unds n (kvs.map (·.2))
  | .ins _ fs => D.unds n (fs.map (·.2))
/-- the old objects hold nothing new -/
def sound (ah ah' : AH) : Bool := decide (ah'.take ah.length = ah) || (ah'.take ah.length).all (AObj.und ah.length)
def fin (ah : AH) (d : D) (ah' : AH) : Res D :=
  if ah'.length ≤ ah.length then .ok d ah' else if sound ah ah' = true then
    if d.und ah.length = true then .ok d (ah'.take ah.length) else match d with
      | .ref m => match ah'[m]? with
        | some o => if o.und ah.length = true then .ok (.ref ah.length) (ah'.take ah.length ++ [o]) else .ok d ah'
        | none => .ok d ah'
      | _ => .ok d ah'
  else .ok d ah'
def fsUnd (n : Nat) (fs : Option (List (Str × D))) : Bool := match fs with
  | none => true
  | some l => D.unds n (l.map (·.2))
def finX (ah : AH) (fs : Option (List (Str × D))) (ah' : AH) : AH := if ah'.length ≤ ah.length then ah' else if sound ah ah' = true ∧ fsUnd ah.length fs = true then ah'.take ah.length else ah'
section
variable {K : PySem.W.Frag} {μ μ' : List Addr} {H H' : Hp}
mutual
theorem Rep.cut {n : Nat} : ∀ (d : D) (v : V), d.und n = true → Rep K μ H d v → Rep K (μ.take n) H d v
  | .non, _, _, h => by simp only [Rep] at h ⊢; exact h
  | .bl b, _, _, h => by simp only [Rep] at h ⊢; exact h
  | .int i, _, _, h => by simp only [Rep] at h ⊢; exact h
  | .str x, _, _, h => by simp only [Rep] at h ⊢; exact h
  | .ref m, _, b, h => by
    simp only [Rep] at h ⊢
    obtain ⟨a, e, z⟩ := h
    simp only [D.und, decide_eq_true_eq] at b
    exact ⟨a, by rw [List.getElem?_take_of_lt b]; exact e, z⟩
  | .cst w, _, _, h => by simp only [Rep] at h ⊢; exact h
  | .tup ds, _, b, h => by
    simp only [Rep] at h ⊢
    obtain ⟨a, vs, e, q, r⟩ := h
    exact ⟨a, vs, e, q, Reps.cutB ds vs b r⟩
theorem Reps.cutB {n : Nat} : ∀ (ds : List D) (vs : List V), D.unds n ds = true → Reps K μ H ds vs → Reps K (μ.take n) H ds vs
  | [], _, _, h => by simp only [Reps] at h ⊢; exact h
  | d :: ds, _, b, h => by
    simp only [Reps] at h ⊢
    obtain ⟨w, ws, e, r, t⟩ := h
    simp only [D.unds, Bool.and_eq_true] at b
    exact ⟨w, ws, e, Rep.cut d w b.1 r, Reps.cutB ds ws b.2 t⟩
end
mutual
theorem Rep.und : ∀ (d : D) (v : V), Rep K μ H d v → d.und μ.length = true
  | .non, _, _ => rfl
  | .bl b, _, _ => rfl
  | .int i, _, _ => rfl
  | .str x, _, _ => rfl
  | .ref m, _, h => by
    simp only [Rep] at h
    obtain ⟨a, e, z⟩ := h
    simp only [D.und, decide_eq_true_eq]
    exact (List.getElem?_eq_some_iff.mp e).1
  | .cst w, _, _ => rfl
  | .tup ds, _, h => by
    simp only [Rep] at h
    obtain ⟨a, vs, e, q, r⟩ := h
    exact Reps.unds ds vs r
theorem Reps.unds : ∀ (ds : List D) (vs : List V), Reps K μ H ds vs → D.unds μ.length ds = true
  | [], _, _ => rfl
  | d :: ds, _, h => by
    simp only [Reps] at h
    obtain ⟨w, ws, e, r, t⟩ := h
    simp only [D.unds, Bool.and_eq_true]
    exact ⟨Rep.und d w r, Reps.unds ds ws t⟩
end
theorem OOk.cut {n : Nat} {a : Addr} : ∀ {o : AObj}, o.und n = true → OOk K μ H a o → OOk K (μ.take n) H a o
  | .lst ds, b, ⟨vs, e, r⟩ => ⟨vs, e, Reps.cutB _ _ b r⟩
  | .ro ds, b, ⟨vs, e, r⟩ => ⟨vs, e, Reps.cutB _ _ b r⟩
  | .dK ds, b, ⟨vs, e, k, r⟩ => ⟨vs, e, k, Reps.cutB _ _ b r⟩
  | .dT ds, b, ⟨vs, e, k, r⟩ => ⟨vs, e, k, Reps.cutB _ _ b r⟩
  | .ins C ds, b, ⟨dx, vs, e, k, r⟩ => ⟨dx, vs, e, k, Reps.cutB _ _ b r⟩
theorem OOk.und {a : Addr} : ∀ {o : AObj}, OOk K μ H a o → o.und μ.length = true
  | .lst ds, ⟨vs, e, r⟩ => Reps.unds _ _ r
  | .ro ds, ⟨vs, e, r⟩ => Reps.unds _ _ r
  | .dK ds, ⟨vs, e, k, r⟩ => Reps.unds _ _ r
  | .dT ds, ⟨vs, e, k, r⟩ => Reps.unds _ _ r
  | .ins C ds, ⟨dx, vs, e, k, r⟩ => Reps.unds _ _ r
theorem Sim.below {ah : AH} (S : Sim K μ H ah) : ah.all (AObj.und ah.length) = true := by
  rw [List.all_eq_true]
  intro o ho
  obtain ⟨n, hn⟩ := List.getElem?_of_mem ho
  obtain ⟨a, _, r⟩ := S.at hn
  rw [← S.len]
  exact r.und
theorem Sim.cut {ah : AH} (S : Sim K μ H ah) {n : Nat} (h0 : 0 < n) (hb : (ah.take n).all (AObj.und n) = true) : Sim K (μ.take n) H (ah.take n) := by
  have gm : ∀ {i : Nat} {a : Addr}, (μ.take n)[i]? = some a → i < n ∧ μ[i]? = some a := fun {i a} e => by
    have : i < n := by
      have := (List.getElem?_eq_some_iff.mp e).1
      rw [List.length_take] at this
      omega
    rw [List.getElem?_take_of_lt this] at e
    exact ⟨this, e⟩
  have ga : ∀ {i : Nat} {a : AObj}, (ah.take n)[i]? = some a → i < n ∧ ah[i]? = some a := fun {i a} e => by
    have : i < n := by
      have := (List.getElem?_eq_some_iff.mp e).1
      rw [List.length_take] at this
      omega
    rw [List.getElem?_take_of_lt this] at e
    exact ⟨this, e⟩
  refine ⟨by rw [List.length_take, List.length_take, S.len], fun i j a o o' e1 e2 e3 e4 => S.nd i j a o o' (gm e1).2 (gm e2).2 (ga e3).2 (ga e4).2, fun i a o e1 e2 => ?_, ?_, fun i o e => S.ro0 i o (ga e).2⟩
  · exact (S.ok i a o (gm e1).2 (ga e2).2).cut (by rw [List.all_eq_true] at hb; exact hb o (List.mem_of_getElem? e2))
  · rw [List.length_take]
    have := S.pos
    omega
theorem Ext.take (e : Ext K μ H μ' H') : μ'.take μ.length = μ := by
  obtain ⟨t, rfl⟩ := e.pre
  simp
theorem Ext.back (e : Ext K μ H μ' H') : Ext K μ H μ H' := ⟨List.prefix_refl _, e.tup, fun _ h => .inl h, e.keep, e.there⟩
theorem Sim.old {ah ah' : AH} (S : Sim K μ H ah) (e : Ext K μ H μ' H') (S' : Sim K μ' H' ah') (hb : sound ah ah' = true) : Sim K μ H' (ah'.take ah.length) := by
  have := S'.cut (n := ah.length) S.pos (by
    unfold sound at hb
    rw [Bool.or_eq_true] at hb
    rcases hb with h | h
    · rw [decide_eq_true_eq] at h; rw [h]; exact S.below
    · exact h)
  rw [← S.len, e.take] at this
  rw [← S.len]
  exact this
theorem fin_run {Wx : Value → Option Addr → Hp → Prop} {Q : VK} {ah ah' : AH} {d : D} {v : V} (S : Sim K μ H ah) (e : Ext K μ H μ' H') (S' : Sim K μ' H' ah') (r : Rep K μ' H' d v) (hp : Post K (RD K) Wx μ H Q (fin ah d ah')) : Q v H' := by
  unfold fin at hp
  have all : Post K (RD K) Wx μ H Q (.ok d ah') → Q v H' := fun hp => hp μ' v H' e S' r
  split at hp
  · exact all hp
  · split at hp
    · rename_i hs
      split at hp
      · rename_i hd
        have := Rep.cut d v hd r
        rw [← S.len, e.take] at this
        exact hp μ v H' e.back (S.old e S' hs) this
      · rename_i hd
        split at hp
        · rename_i m
          split at hp
          · rename_i o eo
            split at hp
            · rename_i hb
              obtain ⟨a, ea, rfl⟩ := d_ref r
              have hm : ah.length ≤ m := by simpa [D.und] using hd
              have hr : o.isRo = false := by
                cases q : o.isRo with
                | false => rfl
                | true => have := (S'.ro0 m o eo).mp q; have := S.pos; omega
              have ha : a ∉ μ.tail := fun z => by
                obtain ⟨j, hj⟩ := List.getElem?_of_mem z
                rw [List.getElem?_tail] at hj
                have lj : j + 1 < ah.length := by have := (List.getElem?_eq_some_iff.mp hj).1; rw [S.len] at this; exact this
                have hj' := pre_get e.pre hj
                have : j + 1 < ah'.length := by have := (List.getElem?_eq_some_iff.mp hj').1; rw [S'.len] at this; exact this
                have eo' : ah'[j + 1]? = some ah'[j + 1] := List.getElem?_eq_getElem this
                have r' : (ah'[j + 1]).isRo = false := by
                  cases q : (ah'[j + 1]).isRo with
                  | false => rfl
                  | true => have := (S'.ro0 _ _ eo').mp q; omega
                have := S'.nd m (j + 1) a o _ ea hj' eo eo' hr r'
                omega
              have at' : a ∈ μ'.tail := by
                obtain ⟨k, rfl⟩ : ∃ k, m = k + 1 := ⟨m - 1, by have := S.pos; omega⟩
                exact List.mem_of_getElem? (i := k) (by rw [List.getElem?_tail]; exact ea)
              have h0 : H a = none := (e.new a at').resolve_left ha
              have ok := (S'.ok m a o ea eo).cut (n := ah.length) hb
              rw [← S.len, e.take] at ok
              have ok2 : OOk K (μ ++ [a]) H' a o := ok.mono (List.prefix_append _ _) TExt.refl (fun _ => rfl) fun _ _ z => z
              refine hp (μ ++ [a]) (.ref a) H' (e.back.adopt h0 S.mpos) ((S.old e S' hs).adopt hr ha ok2) ?_
              show Rep K (μ ++ [a]) H' (.ref ah.length) (.ref a)
              simp only [Rep]
              exact ⟨a, by rw [← S.len]; simp, rfl⟩
            · exact all hp
          · exact all hp
        · exact all hp
    · exact all hp
theorem finX_run {Wx : Value → Option Addr → Hp → Prop} {Q : VK} {ah ah' : AH} {c : Addr} {fs : Option (List (Str × D))} {od : Option Addr} (S : Sim K μ H ah) (e : Ext K μ H μ' H') (S' : Sim K μ' H' ah') (r : ExnOk K μ' H' fs od) (hp : Post K (RD K) Wx μ H Q (.exn c fs (finX ah fs ah'))) : Wx (.ref c) od H' := by
  unfold finX at hp
  have all : Post K (RD K) Wx μ H Q (.exn c fs ah') → Wx (.ref c) od H' := fun hp => hp μ' H' od e S' r
  split at hp
  · exact all hp
  · split at hp
    · rename_i hs
      refine hp μ H' od e.back (S.old e S' hs.1) ?_
      cases fs with
      | none => exact r
      | some l =>
        obtain ⟨d, fws, h1, h2, h3, h4⟩ := r
        refine ⟨d, fws, h1, h2, h3, ?_⟩
        have := Reps.cutB (n := ah.length) _ _ hs.2 h4
        rw [← S.len, e.take] at this
        exact this
    · exact all hp
end
/-! what it comes to -/
theorem fin_same (ah : AH) (d : D) : fin ah d ah = .ok d ah := by unfold fin; rw [if_pos (Nat.le_refl _)]
theorem fin_len {ah ah' : AH} (d : D) (h : ah'.length = ah.length) : fin ah d ah' = .ok d ah' := by unfold fin; rw [if_pos (Nat.le_of_eq h)]
theorem fin_app (ah junk : AH) {d : D} (h : d.und ah.length = true) : fin ah d (ah ++ junk) = .ok d ah := by
  unfold fin
  cases junk with
  | nil => simp
  | cons x xs =>
    rw [if_neg (by simp), if_pos (by simp [sound]), if_pos h]
    simp
theorem fin_new (ah junk : AH) {m : Nat} {o : AObj} (hm : ah.length ≤ m) (ho : (ah ++ junk)[m]? = some o) (h : o.und ah.length = true) : fin ah (.ref m) (ah ++ junk) = .ok (.ref ah.length) (ah ++ [o]) := by
  unfold fin
  have : m < (ah ++ junk).length := (List.getElem?_eq_some_iff.mp ho).1
  rw [if_neg (by omega), if_pos (by simp [sound]), if_neg (by simp [D.und]; omega)]
  simp only [ho, h, if_true]
  simp
end HA

/-! HA11: defs by their mirrors; calls. -/
namespace HA
open PySem PySem.Spec PyProof.Rows L2

/-- the mirror of a def from its body's: n slots -/
def fnM (n ar : Nat) (mb : SM) (ds : List D) (ah : AH) : Res D := if ds.length = ar then match mb (ds.map some ++ List.replicate (n - ds.length) none) ah with
  | .nx _ ah' => fin ah .non ah'
  | .rt d ah' => fin ah d ah'
  | .exn c fs _ ah' => .exn c fs (finX ah fs ah')
  | _ => .stuck else .stuck
/-- .. with all that it has made -/
def fnR (n ar : Nat) (mb : SM) (ds : List D) (ah : AH) : Res D := if ds.length = ar then match mb (ds.map some ++ List.replicate (n - ds.length) none) ah with
  | .nx _ ah' => .ok .non ah'
  | .rt d ah' => .ok d ah'
  | .exn c fs _ ah' => .exn c fs ah'
  | _ => .stuck else .stuck
/-- what a def at f promises: its mirror's answer -/
structure FnG (P : Program) (w : World) (K : PySem.W.Frag) (mg : Str → Option Value) (base : Heap) (k : Nat) (f : Addr) (fd : FuncData) (ps : List Str) (m : List D → AH → Res D) : Prop where
  run : ∀ (A : Around) (lo : List PySem.Env) (s : Shared) (H : Hp) (args : Args) (us : List Value) (vs : List V) (Q : VK) (E : XK) (μ : List Addr) (ds : List D) (ah : AH), Rm k A → Env0 P w K mg base A lo s H → BindsTo s fd args (ps.zip us) → Vals vs us → vs.length = ps.length →
    Sim K μ H ah → Reps K μ H ds vs → Post K (RD K) (fun c d H' => E c d H') μ H Q (m ds ah) → codeAny (model P w) A (.call (.ref f) args) (CR (L2.CX P w) lo P w H s Q E) s
section
variable {P : Program} {w : World} {K : PySem.W.Frag} {mg : Str → Option Value} {base : Heap}
theorem FnG.mono {j k : Nat} {f : Addr} {fd : FuncData} {ps : List Str} {m : List D → AH → Res D} (F : FnG P w K mg base j f fd ps m) (h : j ≤ k) : FnG P w K mg base k f fd ps m :=
  ⟨fun A lo s H args us vs Q E μ ds ah hr => F.run A lo s H args us vs Q E μ ds ah (hr.mono h)⟩
theorem rm_deeper {k : Nat} {A : Around} (r : Rm (k + 1) A) (env : PySem.Env) : Rm k (A.deeper env) := ⟨r.room.deeper env, r.gd⟩
/-- a def by its body -/
theorem fnG_R {x qual : Str} {st : Stmt} {f : Addr} {fd : FuncData} {N ps : List Str} {k : Nat} {mb : SM} (F : Fun K x qual st f fd) (S : FnScope N ps (defScope st))
    (body : ∀ (cdv : Value) (A : Around) (lo : List PySem.Env) (s : Shared) (H : Hp) (E : XK), Rm k (A.deeper (envOfC qual (defScope st) s.heap.objs.size f cdv)) → PZs (cxOf (L2.CX P w) P w K mg base N qual (defScope st) f cdv A lo s H E) (fun c d _ H' => E c d H') (defBody st) mb) :
    FnG P w K mg base (k + 1) f fd ps (fnR N.length ps.length mb) := by
  obtain ⟨oc, od, kV, doc, pm, an, cdv, ct, osl, rfl, lk, hcd⟩ := F.ex
  refine ⟨fun A lo s H args us vs Q E μ ds ah hr e0 hb rv hl hS rd hp => ?_⟩
  have KX : K.In s.heap := e0.mod.kin.keeps fun b o e => (e0.bs b o e).1
  have nl : s.heap.NoLimit := e0.mod.nolimit.keeps fun b o e => (e0.bs b o e).1
  have par : ∀ y ∈ ps.zip us, (defScope st).names.lookup y.1 = some .local ∨ ((defScope st).names.lookup y.1 = some .cell ∧ ((cellsFrom (s.heap.objs.size + 1) (defScope st).names []).lookup y.1).isSome = true) := fun p hp => by
    rcases S.par p.1 (List.of_mem_zip hp).1 with q | q
    · exact .inl q
    · exact .inr ⟨q, PySem.W.cellsFrom_some _ _ _ (.inl q)⟩
  refine codeAny_call_function hr.room.depth (KX _ _ lk) rfl S.co S.gen rfl (PySem.W.codeRec_of KX hcd) (hb _ _ _ _ ?_)
  refine wpAny_newFunctionEnv_cells S.kind par fun env he s1 x1 => ?_
  subst he
  refine ⟨nl.keeps x1.toInCall.keep, codeAny_func ?_⟩
  have I : Inv (cxOf (L2.CX P w) P w K mg base N qual (defScope st) f cdv A lo s H E) [] (L2.start N vs) H s1 := inv_start S hr.room.hd e0 hl rv x1
  have lds : ds.length = ps.length := rd.length.trans hl
  have hpl : ps.length ≤ N.length := by
    have z := congrArg List.length S.pre
    rw [List.length_take] at z
    omega
  have eS : EnvRel K μ H (ds.map some ++ List.replicate (N.length - ds.length) none) (L2.start N vs) := by
    unfold L2.start
    refine ⟨by simp only [List.length_append, List.length_map, List.length_replicate]; rw [lds, hl], fun i d e => ?_⟩
    by_cases hi : i < ds.length
    · rw [List.getElem?_append_left (by simpa using hi), List.getElem?_map] at e
      cases q : ds[i]? with
      | none => rw [q] at e; cases e
      | some z =>
        rw [q] at e; cases e
        obtain ⟨v, ev, r⟩ := rd.get q
        exact ⟨v, by rw [List.getElem?_append_left (by rw [List.length_map, ← rd.length]; exact hi), List.getElem?_map, ev]; rfl, r⟩
    · rw [List.getElem?_append_right (by simpa using hi), List.getElem?_replicate] at e
      split at e <;> cases e
  have fin : ∀ {σ' : L2.St} {H' : Hp} {s' : Shared} {v : V} {u : Value}, Inv (cxOf (L2.CX P w) P w K mg base N qual (defScope st) f cdv A lo s H E) [] σ' H' s' → RelV v u → Q v H' → CE lo P w H s Q u s' := fun {σ' H' s' v u} J r q => ⟨v, H', J.os, J.bare, J.base, J.hok, r, q⟩
  let DD : Ends := { nx := fun _ H' => Q .non H', rt := Q }
  have po : PostS K (fun c d _ H' => E c d H') DD μ H (mb (ds.map some ++ List.replicate (N.length - ds.length) none) ah) := by
    unfold fnR at hp
    rw [if_pos lds] at hp
    cases q : mb (ds.map some ++ List.replicate (N.length - ds.length) none) ah with
    | nx env' ah' => rw [q] at hp; exact fun μ' σ' H' e' s' _ => hp μ' .non H' e' s' r_non
    | rt d ah' => rw [q] at hp; exact fun μ' v H' e' s' r => hp μ' v H' e' s' r
    | bk env' ah' => rw [q] at hp; exact hp.elim
    | ct env' ah' => rw [q] at hp; exact hp.elim
    | exn c fs env' ah' => rw [q] at hp; exact fun μ' σ' H' od e' s' _ z => hp μ' H' od e' s' z
    | stuck => rw [q] at hp; exact hp.elim
  refine wpAny_mono ((body cdv A lo s H E (rm_deeper hr _)).run [] s1 (L2.start N vs) H DD I ⟨μ, _, ah, eS, hS, po⟩) (fun fl s' hs => ?_) fun e s' z => z
  cases fl with
  | ret u => obtain ⟨v, σ', H', J, r, q⟩ := hs; exact fin J r q
  | next => obtain ⟨σ', H', J, q⟩ := hs; exact fin (v := V.non) (u := Value.none) J rfl q
  | brk => obtain ⟨_, _, _, q⟩ := hs; exact q.elim
  | cont => obtain ⟨_, _, _, q⟩ := hs; exact q.elim
/-- a def by its body; what nobody can reach behind it is dropped -/
theorem fnG {x qual : Str} {st : Stmt} {f : Addr} {fd : FuncData} {N ps : List Str} {k : Nat} {mb : SM} (F : Fun K x qual st f fd) (S : FnScope N ps (defScope st))
    (body : ∀ (cdv : Value) (A : Around) (lo : List PySem.Env) (s : Shared) (H : Hp) (E : XK), Rm k (A.deeper (envOfC qual (defScope st) s.heap.objs.size f cdv)) → PZs (cxOf (L2.CX P w) P w K mg base N qual (defScope st) f cdv A lo s H E) (fun c d _ H' => E c d H') (defBody st) mb) :
    FnG P w K mg base (k + 1) f fd ps (fnM N.length ps.length mb) := by
  have G := fnG_R F S body
  refine ⟨fun A lo s H args us vs Q E μ ds ah hr e0 hb rv hl hS rd hp => G.run A lo s H args us vs Q E μ ds ah hr e0 hb rv hl hS rd ?_⟩
  unfold fnM at hp
  unfold fnR
  split at hp
  · rename_i h
    rw [if_pos h]
    cases q : mb (ds.map some ++ List.replicate (N.length - ds.length) none) ah with
    | nx env' ah' => rw [q] at hp; exact fun μ' v H' e' s' r => fin_run hS e' s' r hp
    | rt d ah' => rw [q] at hp; exact fun μ' v H' e' s' r => fin_run hS e' s' r hp
    | bk env' ah' => rw [q] at hp; exact hp.elim
    | ct env' ah' => rw [q] at hp; exact hp.elim
    | exn c fs env' ah' => rw [q] at hp; exact fun μ' H' od e' s' z => finX_run hS e' s' z hp
    | stuck => rw [q] at hp; exact hp.elim
  · exact hp.elim
end

/-! ### calls -/
section
variable {X : Cx} {W : WX} {k : Nat} {f : Addr} {fd : FuncData} {ps ks : List Str} {m : List D → AH → Res D} {x : Str} {p pos : Pos} {e : Expr} {es : List Expr} {ml mk : EM (List D)} {kws : List Keyword}
theorem run_G {pins : List (Addr × Obj)} {σ : L2.St} {H : Hp} {s : Shared} {Q : VK} {us : List Value} {vs : List V} {args : Args} {μ : List Addr} {ds : List D} {ah : AH} (F : FnG X.prog X.w X.K X.mg X.base k f fd ps m) (hr : Rm k X.A) (tk : Takes X W) (I : Inv X pins σ H s)
    (hb : BindsTo s fd args (ps.zip us)) (hl : vs.length = ps.length) (r : Vals vs us) (S : Sim X.K μ H ah) (rd : Reps X.K μ H ds vs) (hp : Post X.K (RD X.K) (fun c d H' => W c d σ H') μ H Q (m ds ah)) :
    codeAny (model X.prog X.w) X.A (.call (.ref f) args) (fun r s' => match r with
      | .ok (.ret u) => EP X pins σ Q u s'
      | .ok _ => False
      | .error e => X.xe e s') s := by
  refine codeAny_mono (F.run X.A X.stack s H args us vs Q (WE W σ) μ ds ah hr I.env0 hb r hl S rd hp) fun r s' hq => ?_
  cases r with
  | error e => exact passAt tk σ pins H s e s' I hq
  | ok fl =>
    cases fl with
    | ret u => exact I.after hq
    | next => exact hq
    | brk => exact hq
    | cont => exact hq
theorem call_G {pins : List (Addr × Obj)} {σ : L2.St} {H : Hp} {s : Shared} {Q : VK} {us : List Value} {vs : List V} {kw : List (Str × Value)} {us' : List Value} {μ : List Addr} {ds : List D} {ah : AH} (F : FnG X.prog X.w X.K X.mg X.base k f fd ps m) (hr : Rm k X.A) (tk : Takes X W) (I : Inv X pins σ H s)
    (hb : BindsTo s fd ⟨us', kw⟩ (ps.zip us)) (hl : vs.length = ps.length) (r : Vals vs us) (S : Sim X.K μ H ah) (rd : Reps X.K μ H ds vs) (hp : Post X.K (RD X.K) (fun c d H' => W c d σ H') μ H Q (m ds ah)) :
    wpAny (model X.prog X.w) X.A (call (.ref f) us' kw) (EP X pins σ Q) X.xe s := by
  refine wpAny_call (codeAny_mono (run_G F hr tk I hb hl r S rd hp) fun r s' hq => ?_)
  cases r with
  | error e => exact hq
  | ok fl =>
    cases fl with
    | ret u => exact hq
    | next => exact hq.elim
    | brk => exact hq.elim
    | cont => exact hq.elim
/-- how many values arguments have -/
def Many (n : Nat) (ml : EM (List D)) : Prop := ∀ env ah ds ah', ml env ah = .ok ds ah' → ds.length = n
theorem many_nil : Many 0 aNil := fun env ah ds ah' h => by cases h; rfl
theorem many_cons {n : Nat} {me : EM D} (h : Many n ml) : Many (n + 1) (aCons me ml) := fun env ah ds ah' e => by
  unfold aCons at e
  cases q : me env ah with
  | ok x a1 =>
    rw [q] at e
    cases q2 : ml env a1 with
    | ok xs a2 =>
      rw [Res.bind_ok, q2, Res.bind_ok] at e
      cases e
      rw [List.length_cons, h _ _ _ _ q2]
    | exn c fs a3 => rw [Res.bind_ok, q2] at e; cases e
    | stuck => rw [Res.bind_ok, q2] at e; cases e
  | exn c fs a4 => rw [q] at e; cases e
  | stuck => rw [q] at e; cases e
/-- the answer of arguments, with how many there are -/
theorem Post.many {K : PySem.W.Frag} {Wx : Value → Option Addr → Hp → Prop} {μ : List Addr} {H : Hp} {Q : List V → Hp → Prop} {env : Env} {ah : AH} {n : Nat} (hm : Many n ml) (h : Post K (RA K) Wx μ H (fun vs H' => vs.length = n → Q vs H') (ml env ah)) : Post K (RA K) Wx μ H Q (ml env ah) := by
  cases q : ml env ah with
  | ok ds a1 =>
    rw [q] at h
    exact fun μ' vs H' e s r => h μ' vs H' e s r (by rw [← Reps.length (show Reps K μ' H' ds vs from r)]; exact hm env ah ds a1 q)
  | exn c fs a1 => rw [q] at h; exact h
  | stuck => rw [q] at h; exact h
theorem pd_call (F : FnG X.prog X.w X.K X.mg X.base k f fd ps m) (hr : Rm k X.A) (hg : Gl X x) (hm : X.mg x = some (.ref f)) (hk : PySem.W.keepIn X.K (.ref f) = true) (hb : Binds X.K fd ps []) (tk : Takes X W) (ha : PAs X W (e :: es) ml) (hn : Many ps.length ml)
    (hdb : (x == ("__debug__" : Str)) = false := by decide) (he : starEach (e :: es) X.env = (false, eval e X.env) :: starEach es X.env := by rfl) (hpl : (backTo pos (starEach es X.env)).any (·.1) = false := by rfl) : PD X W (.Call (.Name x p) (e :: es) [] pos) (e1 ml m) := by
  refine ⟨fun pins s σ H Q I h => ?_⟩
  obtain ⟨μ, env, ah, hE, hs, hp⟩ := h
  refine wpAny_Call_Name_kw (ld_glob I hg hm ?_ hdb)
  refine PySem.W.callWith_K (h₀ := X.base) I.ok.mod.kin hk (thn (ha.run pos pins s σ H (fun vs H1 => vs.length = ps.length ∧ ∃ μ1 ah1 ds, Sim X.K μ1 H1 ah1 ∧ Reps X.K μ1 H1 ds vs ∧ Post X.K (RD X.K) (fun c d H' => W c d σ H') μ1 H1 Q (m ds ah1)) I
    ⟨μ, env, ah, hE, hs, Post.many hn (hp.bind fun ds ah1 μ1 vs H1 e1 s1 r1 p1 hl => ⟨hl, μ1, ah1, ds, s1, r1, p1⟩)⟩) fun us s1 hz => ?_) he hpl
  obtain ⟨vs, H1, I1, r, hl, μ1, ah1, ds, s1', rd, p1⟩ := hz
  refine ⟨I1.kIn, ?_⟩
  have b := hb s1 us I1.kIn (by rw [List.append_nil, ← r.length]; exact hl)
  rw [List.append_nil] at b
  exact call_G F hr tk I1 b hl r s1' rd p1
theorem pd_call0 (F : FnG X.prog X.w X.K X.mg X.base k f fd [] m) (hr : Rm k X.A) (hg : Gl X x) (hm : X.mg x = some (.ref f)) (hk : PySem.W.keepIn X.K (.ref f) = true) (hb : Binds X.K fd [] []) (tk : Takes X W) (hdb : (x == ("__debug__" : Str)) = false := by decide) : PD X W (.Call (.Name x p) [] [] pos) (fun _ ah => m [] ah) := by
  refine ⟨fun pins s σ H Q I h => ?_⟩
  obtain ⟨μ, env, ah, hE, hs, hp⟩ := h
  refine wpAny_Call_Name_kw (ld_glob I hg hm ?_ hdb)
  refine PySem.W.callWith_K0 I.kIn hk ?_
  have b := hb s [] I.kIn rfl
  exact call_G (us' := []) (kw := []) (us := []) (vs := []) F hr tk I b rfl .nil hs Reps.nil hp
end
end HA

/-! HA12: lists put together, compared with [], shown; dicts; methods of lists; keyword calls; pairs of targets. -/
namespace HA
open PySem PySem.Spec PyProof.Rows L2

/-- a tracked list: new, by its items, or one of ours -/
abbrev LT := Sum (List D) Nat
def RLT (K : PySem.W.Frag) : Rel LT V := ⟨fun _ μ H t v => match t with
  | .inl ds => ∃ a vs, v = .ref a ∧ H a = some (.lst vs) ∧ a ∉ μ.tail ∧ Reps K μ H ds vs
  | .inr n => Rep K μ H (.ref n) v, fun _ h => h⟩
def PLT (X : Cx) (W : WX) (e : Expr) (m : EM LT) : Prop := PE X e (tG X.K (RLT X.K) W m)
def ltOf (t : LT) (ah : AH) : Option (List D) := match t with
  | .inl ds => some ds
  | .inr n => match ah[n]? with
    | some (.lst ds) => some ds
    | _ => none
theorem rlt_ext {K : PySem.W.Frag} {μ μ1 : List Addr} {H H1 : Hp} {t : LT} {v : V} {H₀ H₁ : Hp} (h : (RLT K).r H₀ μ H t v) (e : Ext K μ H μ1 H1) : (RLT K).r H₁ μ1 H1 t v := by
  cases t with
  | inl ds =>
    obtain ⟨a, vs, ev, ha, hm, r⟩ := h
    refine ⟨a, vs, ev, e.keep a _ hm ha, fun z => ?_, r.ext e⟩
    rcases e.new a z with w | w
    · exact hm w
    · rw [ha] at w; cases w
  | inr n => exact Rep.ext (show Rep K μ H (.ref n) v from h) e
theorem rlt_at {K : PySem.W.Frag} {μ : List Addr} {H : Hp} {ah : AH} {t : LT} {v : V} {ds : List D} {H₀ : Hp} (S : Sim K μ H ah) (h : (RLT K).r H₀ μ H t v) (e : ltOf t ah = some ds) : ∃ a vs, v = .ref a ∧ H a = some (.lst vs) ∧ Reps K μ H ds vs := by
  cases t with
  | inl xs =>
    obtain ⟨a, vs, ev, ha, hm, r⟩ := h
    cases e
    exact ⟨a, vs, ev, ha, r⟩
  | inr n =>
    obtain ⟨a, ea, rfl⟩ := d_ref (show Rep K μ H (.ref n) v from h)
    unfold ltOf at e
    dsimp only at e
    split at e
    · rename_i xs q
      cases e
      obtain ⟨vs, h1, r⟩ := S.ok n a _ ea q
      exact ⟨a, vs, rfl, h1, r⟩
    · cases e
section
variable {X : Cx} {W : WX} {k : Nat} {e : Expr} {es : List Expr} {m : EM D} {ml : EM (List D)} {pos : Pos}
def tNew (m : EM (List D)) : EM LT := e1 m fun ds ah => .ok (.inl ds) ah
def tOur (m : EM D) : EM LT := e1 m fun d ah => match d with
  | .ref n => .ok (.inr n) ah
  | _ => .stuck
theorem plt_l (h : PL X W e ml) : PLT X W e (tNew ml) := by
  refine PE.weak h fun σ H Q ⟨μ, env, ah, he, hs, hp⟩ => ?_
  refine ⟨μ, env, ah, he, hs, hp.bind fun ds ah1 μ1 x H1 e1 s1 r1 p1 => ?_⟩
  obtain ⟨a, vs, rfl, _, ha, hm, r⟩ := r1
  exact Post.ok1 (R := RLT X.K) p1 s1 ⟨a, vs, rfl, ha, hm, r⟩
theorem plt_d (h : PD X W e m) : PLT X W e (tOur m) := by
  refine PE.weak h fun σ H Q ⟨μ, env, ah, he, hs, hp⟩ => ?_
  refine ⟨μ, env, ah, he, hs, hp.bind fun d ah1 μ1 x H1 e1 s1 r1 p1 => ?_⟩
  cases d with
  | ref n => exact Post.ok1 (R := RLT X.K) p1 s1 r1
  | _ => exact p1.elim
/-- xs + ys, lists: a new one -/
def lCat (x y : LT) (ah : AH) : Res (List D) := match ltOf x ah, ltOf y ah with
  | some xs, some ys => if xs.length + ys.length ≤ line then .ok (xs ++ ys) ah else .stuck
  | _, _ => .stuck
theorem pl_cat {a b : Expr} {ma mb : EM LT} (ha : PLT X W a ma) (hb : PLT X W b mb) : PL X W (.BinOp a .Add b pos) (e2 ma mb lCat) := by
  refine PE.weak (pe_op op_cat ha hb) fun σ H Q ⟨μ, env, ah, he, hs, hp⟩ => ?_
  refine ⟨μ, env, ah, he, hs, hp.bind0 fun t ah1 μ1 x H1 e1 s1 r1 p1 => ?_⟩
  have p1 := Post.ext e1 p1
  refine tG_next he e1 s1 (p1.bind fun u ah2 μ2 y H2 e2 s2 r2 p2 => ?_)
  unfold lCat at p2
  split at p2
  · rename_i xs ys q1 q2
    split at p2
    · rename_i hl
      obtain ⟨a, vs, rfl, hA, rA⟩ := rlt_at s2 (rlt_ext (H₁ := H) r1 e2) q1
      obtain ⟨b, ws, rfl, hB, rB⟩ := rlt_at s2 r2 q2
      exact ⟨a, b, vs, ws, rfl, rfl, hA, hB, line_le (by rw [← rA.length, ← rB.length]; exact hl), fun p np => Post.newL p2 s2 (rA.append rB) np⟩
    · exact p2.elim
  · exact p2.elim
/-- xs * k -/
def lRep (x : LT) (y : D) (ah : AH) : Res (List D) := match ltOf x ah, y with
  | some xs, .int k => if -(2 ^ 63) ≤ k ∧ k < 2 ^ 63 ∧ xs.length * k.toNat ≤ line then .ok (List.replicate k.toNat xs).flatten ah else .stuck
  | _, _ => .stuck
theorem reps_rep {K : PySem.W.Frag} {μ : List Addr} {H : Hp} {xs : List D} {vs : List V} (r : Reps K μ H xs vs) : ∀ n : Nat, Reps K μ H (List.replicate n xs).flatten (List.replicate n vs).flatten
  | 0 => Reps.nil
  | n + 1 => by rw [List.replicate_succ, List.replicate_succ, List.flatten_cons, List.flatten_cons]; exact r.append (reps_rep r n)
theorem pl_rep {a b : Expr} {ma : EM LT} {mb : EM D} (ha : PLT X W a ma) (hb : PD X W b mb) : PL X W (.BinOp a .Mult b pos) (e2 ma mb lRep) := by
  refine PE.weak (pe_op op_rep ha hb) fun σ H Q ⟨μ, env, ah, he, hs, hp⟩ => ?_
  refine ⟨μ, env, ah, he, hs, hp.bind0 fun t ah1 μ1 x H1 e1 s1 r1 p1 => ?_⟩
  have p1 := Post.ext e1 p1
  refine tG_next he e1 s1 (p1.bind fun u ah2 μ2 y H2 e2 s2 r2 p2 => ?_)
  unfold lRep at p2
  split at p2
  · rename_i xs k q1
    split at p2
    · rename_i hl
      obtain ⟨a, vs, rfl, hA, rA⟩ := rlt_at s2 (rlt_ext (H₁ := H) r1 e2) q1
      rw [d_int (show Rep X.K μ2 H2 (.int k) y from r2)]
      exact ⟨a, k, vs, rfl, rfl, hA, hl.1, hl.2.1, line_le (by rw [← rA.length]; exact hl.2.2), fun p np => Post.newL p2 s2 (reps_rep rA _) np⟩
    · exact p2.elim
  · exact p2.elim

/-! ### a list as a datum -/
theorem list_sr {pins : List (Addr × Obj)} {σ : L2.St} {μ : List Addr} {H : Hp} {s : Shared} {ah : AH} {f : Nat} {ds : List D} {ps : List PyData} {vs : List V} {a : Addr} (I : Inv X pins σ H s) (S : Sim X.K μ H ah) (q : SqL X.K H a vs) (r : Reps X.K μ H ds vs) (h : optAll (toP ah f) ds = some ps) : SR s.heap (.ref a) (.list ps) := by
  obtain ⟨its, rv, ⟨o, m, e1, e2, _, e3⟩, _⟩ := I.list q
  refine .list e1 e2 e3 (by rw [← rv.length, ← r.length]; exact optAll_length h) fun i u p x1 x2 => ?_
  have hi : i < ds.length := by rw [optAll_length h]; exact (List.getElem?_eq_some_iff.mp x2).1
  have x3 : ds[i]? = some ds[i] := List.getElem?_eq_getElem hi
  obtain ⟨v, x4, rv4⟩ := r.get x3
  obtain ⟨u', x5, ru⟩ := rv.get x4
  rw [show its.toArray.toList = its from by simp] at x1
  rw [x1] at x5; cases x5
  exact Inv.sr I S f _ v u p (optAll_get h x3 x2) rv4 ru
/-- repr of a list -/
def lRepr (ds : List D) (ah : AH) : Res D := match optAll (toP ah 62) ds with
  | some ps => if PyData.showable (.list ps) = true ∧ (PyData.shown (.list ps)).length ≤ line ∧ PyData.depth (.list ps) ≤ 63 then .ok (.str (PyData.shown (.list ps))) ah else .stuck
  | none => .stuck
theorem cs_repr (hr : Rm k X.A) : CallS X (RM X.K) (RD X.K) (.builtin "repr") lRepr := fun W => by
  intro pins s σ H xs us Q I rv h
  obtain ⟨μ, ah, ds, x, H₀, rfl, S, ⟨a, vs, rfl, q, r⟩, hp⟩ := h
  unfold lRepr at hp
  split at hp
  · rename_i ps e
    split at hp
    · rename_i hc
      obtain ⟨u, rfl, ru⟩ := vals1 rv
      cases ru
      have z := list_sr I S q r e
      refine SR.repr z hc.1 (line_le hc.2.1) hr.gd (by have := hr.u65; have := hc.2.2; omega) fun h' t tk kk => ?_
      exact ⟨.str _, H, I.kept kk, ⟨t, rfl⟩, Post.ok1 (R := RD X.K) hp S r_str⟩
    · exact hp.elim
  · exact hp.elim
/-- xs == [], xs != [] -/
def lNil (neg : Bool) (ds : List D) (ah : AH) : Res Bool := match ds with
  | [] => .ok (!neg) ah
  | _ => match optAll (toP ah 62) ds with
    | some ps => if SeqAt.shaped (.list ps) = true then .ok neg ah else .stuck
    | none => .stuck
theorem lNil_v {ds : List D} {ah ah' : AH} {neg b : Bool} (h : lNil neg ds ah = .ok b ah') : ah' = ah ∧ ∃ ps, optAll (toP ah 62) ds = some ps ∧ SeqAt.shaped (.list ps) = true ∧ b = (if neg then !PyData.eqv (.list ps) (.list []) else PyData.eqv (.list ps) (.list [])) := by
  unfold lNil at h
  split at h
  · cases h
    exact ⟨rfl, [], rfl, by decide +kernel, by cases neg <;> rfl⟩
  · rename_i d r
    split at h
    · rename_i ps e
      split at h
      · rename_i hs
        cases h
        refine ⟨rfl, ps, e, hs, ?_⟩
        cases ps with
        | nil =>
          have z := optAll_length e
          cases ds with
          | nil => exact absurd rfl r
          | cons _ _ => simp at z
        | cons p ps => cases neg <;> simp [PyData.eqv, PyData.eqvAll]
      · cases h
    · cases h
theorem nil_shaped : SeqAt.shaped (.list []) = true := by decide +kernel
/-- the comparison of a list with a new empty one -/
theorem op_nil (hu : X.A.units + 64 < cLine) (neg : Bool) : OpR X (compareOp (if neg then .NotEq else .Eq)) (fun x y H Q => ∃ a b vs μ ah ds ps, x = .ref a ∧ y = .ref b ∧ SqL X.K H a vs ∧ H b = some (.lst []) ∧ Sim X.K μ H ah ∧ Reps X.K μ H ds vs ∧ optAll (toP ah 62) ds = some ps ∧ SeqAt.shaped (.list ps) = true ∧
    Q (.bl (if neg then !PyData.eqv (.list ps) (.list []) else PyData.eqv (.list ps) (.list []))) H) := by
  intro pins s σ H x y v u Q I rx ry h
  obtain ⟨a, b, vs, μ, ah, ds, ps, rfl, rfl, q, hb, S, r, e, hs, hq⟩ := h
  cases rx
  cases ry
  obtain ⟨as, r1⟩ := (list_sr I S q r e).reads
  obtain ⟨bs, r2⟩ := (list_sr (f := 62) (ds := []) (ps := []) I S (SqL.of hb) Reps.nil rfl).reads
  cases neg with
  | false => exact SeqAt.compareEq_shaped r1 r2 hs nil_shaped hu ⟨.bl _, H, I, rfl, hq⟩
  | true => exact SeqAt.compareNe_shaped r1 r2 hs nil_shaped hu ⟨.bl _, H, I, rfl, hq⟩
def bNil (neg : Bool) (m : EM (List D)) : EM Bool := e1 m (lNil neg)
theorem nil_step {neg : Bool} {σ : L2.St} {H : Hp} {Q : V → Hp → Prop} {γ : Type} {R : Rel Bool γ} {Q' : γ → Hp → Prop} {c : γ → V} (hR : ∀ H₀ μ H b g, R.r H₀ μ H b g → True) (hu : X.A.units + 64 < cLine) (h : tG X.K RBV W (bNil neg ml) σ H Q) :
    tOp (fun x y H Q => ∃ a b vs μ ah ds ps, x = .ref a ∧ y = .ref b ∧ SqL X.K H a vs ∧ H b = some (.lst []) ∧ Sim X.K μ H ah ∧ Reps X.K μ H ds vs ∧ optAll (toP ah 62) ds = some ps ∧ SeqAt.shaped (.list ps) = true ∧
      Q (.bl (if neg then !PyData.eqv (.list ps) (.list []) else PyData.eqv (.list ps) (.list []))) H) (tG X.K (RM X.K) W ml) (tLst tNil) σ H Q := by
  obtain ⟨μ, env, ah, he, hs, hp⟩ := h
  refine ⟨μ, env, ah, he, hs, hp.bind fun ds ah1 μ1 x H1 e1 s1 r1 p1 => ?_⟩
  obtain ⟨a, vs, rfl, q, r⟩ := r1
  refine ⟨by decide, fun b nb => ?_⟩
  cases z : lNil neg ds ah1 with
  | ok c ah2 =>
    obtain ⟨rfl, ps, e, hsh, rfl⟩ := lNil_v z
    rw [z] at p1
    have ex : Ext X.K μ1 H1 μ1 (upd H1 b (.lst [])) := Ext.other nb
    have q2 : SqL X.K (upd H1 b (.lst [])) a vs := by
      rcases q with (q | ⟨o, q⟩) | q
      · exact .inl (.inl (by rw [upd_ne (ne_of_none q nb)]; exact q))
      · exact .inl (.inr ⟨o, by rw [upd_ne (ne_of_none q nb)]; exact q⟩)
      · exact .inr q
    exact ⟨a, b, vs, μ1, ah2, ds, ps, rfl, rfl, q2, upd_same, s1.other nb, r.ext ex, e, hsh, p1 μ1 _ _ ex (s1.other nb) rfl⟩
  | exn c fs a2 =>
    unfold lNil at z
    split at z
    · cases z
    · split at z
      · split at z <;> cases z
      · cases z
  | stuck => rw [z] at p1; exact p1.elim
theorem pb_nil {j1 : Pos} (hr : Rm k X.A) (ha : PM X W e ml) : PB X W (.Compare e [.Eq] [.List [] j1] pos) (bNil false ml) := by
  refine PT.weak (pt_cmpR (op_nil hr.u64 false) ha (pe_lst pa_nil) (nomark _)) fun σ H Q ⟨μ, env, ah, he, hs, hp⟩ => ?_
  exact nil_step (R := RB) (c := V.bl) (Q' := Q) (fun _ _ _ _ _ _ => trivial) hr.u64 ⟨μ, env, ah, he, hs, Post.bb hp⟩
theorem pb_notNil {j1 : Pos} (hr : Rm k X.A) (ha : PM X W e ml) : PB X W (.Compare e [.NotEq] [.List [] j1] pos) (bNil true ml) := by
  refine PT.weak (pt_cmpR (op_nil hr.u64 true) ha (pe_lst pa_nil) (nomark _)) fun σ H Q ⟨μ, env, ah, he, hs, hp⟩ => ?_
  exact nil_step (R := RB) (c := V.bl) (Q' := Q) (fun _ _ _ _ _ _ => trivial) hr.u64 ⟨μ, env, ah, he, hs, Post.bb hp⟩
theorem pd_nil {j1 : Pos} (hr : Rm k X.A) (ha : PM X W e ml) : PD X W (.Compare e [.Eq] [.List [] j1] pos) (eB (bNil false ml)) := by
  refine PE.weak (pe_cmpR (op_nil hr.u64 false) ha (pe_lst pa_nil) (nomark _)) fun σ H Q ⟨μ, env, ah, he, hs, hp⟩ => ?_
  exact nil_step (R := RB) (c := V.bl) (Q' := fun _ _ => True) (fun _ _ _ _ _ _ => trivial) hr.u64 ⟨μ, env, ah, he, hs, Post.bv hp⟩
theorem pd_notNil {j1 : Pos} (hr : Rm k X.A) (ha : PM X W e ml) : PD X W (.Compare e [.NotEq] [.List [] j1] pos) (eB (bNil true ml)) := by
  refine PE.weak (pe_cmpR (op_nil hr.u64 true) ha (pe_lst pa_nil) (nomark _)) fun σ H Q ⟨μ, env, ah, he, hs, hp⟩ => ?_
  exact nil_step (R := RB) (c := V.bl) (Q' := fun _ _ => True) (fun _ _ _ _ _ _ => trivial) hr.u64 ⟨μ, env, ah, he, hs, Post.bv hp⟩

end
end HA

/-! HA13: methods of lists, dicts, stores, keyword calls, pairs of targets. -/
namespace HA
open PySem PySem.Spec PyProof.Rows L2
section
variable {X : Cx} {W : WX} {k : Nat} {e : Expr} {es : List Expr} {m : EM D} {ml : EM (List D)} {pos : Pos}

/-! ### methods of lists -/
/-- a method by data: of the object d, with arguments -/
def MtD (X : Cx) (id : String) (f : D → List D → AH → Res D) : Prop := ∀ W, MtR X id (fun x vs H Q => ∃ μ ah d ds, Sim X.K μ H ah ∧ Rep X.K μ H d x ∧ Reps X.K μ H ds vs ∧ Post X.K (RD X.K) W μ H Q (f d ds ah))
theorem MtR.imp {id : String} {r r' : V → List V → Hp → VK → Prop} (h : MtR X id r) (k : ∀ x vs H Q, r' x vs H Q → r x vs H Q) : MtR X id r' := fun pins s σ H x xs v us Q I rx rv q => h pins s σ H x xs v us Q I rx rv (k x xs H Q q)
theorem put_lst {K : PySem.W.Frag} {Wx : Value → Option Addr → Hp → Prop} {μ : List Addr} {H : Hp} {Q : VK} {ah : AH} {n : Nat} {a : Addr} {xs ys : List D} {ws : List V} {d : D} {v : V} (S : Sim K μ H ah) (ea : μ[n]? = some a) (q : ah[n]? = some (.lst xs)) (r : Reps K μ H ys ws) (rd : Rep K μ H d v)
    (hp : Post K (RD K) Wx μ H Q (.ok d (ah.set n (.lst ys)))) : Q v (upd H a (.lst ws)) := by
  have hn : n ≠ 0 := fun z => by
    have := (S.ro0 n _ q).mpr z
    cases this
  have mu := (S.ok n a _ ea q).there rfl
  refine hp μ v _ (Ext.put ea hn mu) (S.put ea q rfl rfl fun ht => ⟨ws, upd_same, Reps.mono (List.prefix_refl _) ht _ _ r⟩) (Rep.ext rd (Ext.put ea hn mu))
theorem r_non' {K : PySem.W.Frag} {μ : List Addr} {H : Hp} : Rep K μ H .non .non := by simp only [Rep]
def mAppend (d : D) (ds : List D) (ah : AH) : Res D := match d, ds with
  | .ref n, [y] => match ah[n]? with
    | some (.lst xs) => if xs.length < line then .ok .non (ah.set n (.lst (xs ++ [y]))) else .stuck
    | _ => .stuck
  | _, _ => .stuck
theorem md_append : MtD X "list.append" mAppend := fun W => by
  refine MtR.imp mt_append fun x vs H Q ⟨μ, ah, d, ds, S, r1, r2, hp⟩ => ?_
  unfold mAppend at hp
  split at hp
  · rename_i n y
    obtain ⟨a, ea, rfl⟩ := d_ref r1
    obtain ⟨w, rfl, ry⟩ := reps1 r2
    split at hp
    · rename_i xs q
      split at hp
      · rename_i hl
        obtain ⟨vs, h1, r⟩ := S.ok n a _ ea q
        exact ⟨a, vs, w, rfl, rfl, h1, Nat.lt_of_lt_of_le (by rw [← r.length]; exact hl) (line_le (Nat.le_refl _)), put_lst S ea q (r.append (Reps.cons ry Reps.nil)) r_non' hp⟩
      · exact hp.elim
    · exact hp.elim
  · exact hp.elim
def mPop (d : D) (ds : List D) (ah : AH) : Res D := match d, ds with
  | .ref n, [] => match ah[n]? with
    | some (.lst xs) => match xs[xs.length - 1]? with
      | some y => .ok y (ah.set n (.lst xs.dropLast))
      | none => .stuck
    | _ => .stuck
  | .ref n, [.int i] => match ah[n]? with
    | some (.lst xs) => if -(2 ^ 63) ≤ i ∧ i < 2 ^ 63 then match seqIndex? i xs.length with
      | some j => match xs[j]? with
        | some y => .ok y (ah.set n (.lst (xs.eraseIdx j)))
        | none => .stuck
      | none => .stuck else .stuck
    | _ => .stuck
  | _, _ => .stuck
theorem MtR.or {id : String} {r r' : V → List V → Hp → VK → Prop} (h : MtR X id r) (h' : MtR X id r') : MtR X id (fun x vs H Q => r x vs H Q ∨ r' x vs H Q) := fun pins s σ H x xs v us Q I rx rv q => q.elim (h pins s σ H x xs v us Q I rx rv) (h' pins s σ H x xs v us Q I rx rv)
theorem md_pop : MtD X "list.pop" mPop := fun W => by
  refine MtR.imp (MtR.or mt_pop mt_popAt) fun x vs H Q ⟨μ, ah, d, ds, S, r1, r2, hp⟩ => ?_
  unfold mPop at hp
  split at hp
  · rename_i n
    obtain ⟨a, ea, rfl⟩ := d_ref r1
    simp only [Reps] at r2
    subst r2
    split at hp
    · rename_i xs q
      split at hp
      · rename_i y ey
        obtain ⟨vs, h1, r⟩ := S.ok n a _ ea q
        obtain ⟨w, ew, rw'⟩ := r.get ey
        exact .inl ⟨a, vs, w, rfl, rfl, h1, by rw [← r.length]; exact ew, put_lst S ea q r.dropLast rw' hp⟩
      · exact hp.elim
    · exact hp.elim
  · rename_i n i
    obtain ⟨a, ea, rfl⟩ := d_ref r1
    obtain ⟨w, rfl, ry⟩ := reps1 r2
    rw [d_int ry]
    split at hp
    · rename_i xs q
      split at hp
      · rename_i hl
        split at hp
        · rename_i j ej
          split at hp
          · rename_i y ey
            obtain ⟨vs, h1, r⟩ := S.ok n a _ ea q
            obtain ⟨u, eu, ru⟩ := r.get ey
            exact .inr ⟨a, vs, i, j, u, rfl, rfl, h1, hl.1, hl.2, by rw [← r.length]; exact ej, eu, put_lst S ea q (r.eraseIdx j) ru hp⟩
          · exact hp.elim
        · exact hp.elim
      · exact hp.elim
    · exact hp.elim
  · exact hp.elim
def mInsert (d : D) (ds : List D) (ah : AH) : Res D := match d, ds with
  | .ref n, [.int i, y] => match ah[n]? with
    | some (.lst xs) => if xs.length < line ∧ 0 ≤ i ∧ i < 2 ^ 63 then .ok .non (ah.set n (.lst (xs.take i.toNat ++ [y] ++ xs.drop i.toNat))) else .stuck
    | _ => .stuck
  | _, _ => .stuck
theorem md_insert : MtD X "list.insert" mInsert := fun W => by
  refine MtR.imp mt_insert fun x vs H Q ⟨μ, ah, d, ds, S, r1, r2, hp⟩ => ?_
  unfold mInsert at hp
  split at hp
  · rename_i n i y
    obtain ⟨a, ea, rfl⟩ := d_ref r1
    obtain ⟨v, w, rfl, ri, ry⟩ := reps2 r2
    rw [d_int ri]
    split at hp
    · rename_i xs q
      split at hp
      · rename_i hl
        obtain ⟨vs, h1, r⟩ := S.ok n a _ ea q
        exact ⟨a, vs, i, w, rfl, rfl, h1, Nat.lt_of_lt_of_le (by rw [← r.length]; exact hl.1) (line_le (Nat.le_refl _)), hl.2.1, hl.2.2, put_lst S ea q (((r.take _).append (Reps.cons ry Reps.nil)).append (r.drop _)) r_non' hp⟩
      · exact hp.elim
    · exact hp.elim
  · exact hp.elim
/-- o.m(..) of a list of ours -/
theorem list_ty {K : PySem.W.Frag} {μ : List Addr} {H : Hp} {ah : AH} {n : Nat} {v : V} {xs : List D} (S : Sim K μ H ah) (r : Rep K μ H (.ref n) v) (e : listAt ah n = some xs) : tyV K "list" v H := by
  obtain ⟨a, ea, rfl⟩ := d_ref r
  obtain ⟨b, vs, eb, q, _⟩ := S.list e
  rw [ea] at eb; cases eb
  exact .inl ⟨rfl, vs, q⟩
def isList (d : D) (ah : AH) : Bool := match d with
  | .ref n => (listAt ah n).isSome
  | _ => false
/-- the method of a list, its receiver looked at ahead of the arguments -/
def eMt (mo : EM D) (ml : EM (List D)) (f : D → List D → AH → Res D) : EM D := fun env ah => (mo env ah).bind fun d ah1 => if isList d ah1 = true then (ml env ah1).bind fun ds ah2 => f d ds ah2 else .stuck
variable {o : Expr} {mo : EM D} {name : Str} {apos cpos : Pos} {id : String} {f : D → List D → AH → Res D}
theorem pe_bmσ {T : String} {r : L2.St → V → List V → Hp → VK → Prop} {to : TE} {t : TA} (pa : PlainAttrs T) (slot : Slot T name id) (hty : typeOf (.builtin id) = pure (.type "method_descriptor")) (hm : ∀ σ, MtR X id (r σ)) (ho : PE X o to) (ha : PA X (e :: es) t)
    (hbase : attributeBase o name X.env (eval o X.env) = eval o X.env := by rfl)
    (hfew : ((backTo cpos (starEach (e :: es) X.env)).all (fun x => !x.1) && (backToKw cpos (keywordEach [] X.env)).all (fun x => x.1.isSome) && decide ((e :: es).length + ([] : List Keyword).length + (if ([] : List Keyword).isEmpty then 0 else 1) < 30)) = true := by rfl)
    (hline : (apos.endLine == cpos.line) = true := by rfl) (hs : starEach (e :: es) X.env = (false, eval e X.env) :: starEach es X.env := by rfl) (hplain : (backTo cpos (starEach es X.env)).any (·.1) = false := by rfl) :
    PE X (.Call (.Attribute o name apos) (e :: es) [] cpos) (fun σ H Q => tBM X.K T (r σ) to t σ H Q) :=
  ⟨fun pins s σ H Q I h => (pe_bm pa slot hty (hm σ) ho ha hbase hfew hline hs hplain).run pins s σ H Q I h⟩
theorem pe_bm0σ {T : String} {r : L2.St → V → List V → Hp → VK → Prop} {to : TE} (pa : PlainAttrs T) (slot : Slot T name id) (hty : typeOf (.builtin id) = pure (.type "method_descriptor")) (hm : ∀ σ, MtR X id (r σ)) (ho : PE X o to)
    (hbase : attributeBase o name X.env (eval o X.env) = eval o X.env := by rfl) (hline : (apos.endLine == cpos.line) = true := by rfl) : PE X (.Call (.Attribute o name apos) [] [] cpos) (fun σ H Q => tBM0 X.K T (r σ) to σ H Q) :=
  ⟨fun pins s σ H Q I h => (pe_bm0 pa slot hty (hm σ) ho hbase hline).run pins s σ H Q I h⟩
theorem pd_ml (pa : PlainAttrs "list") (slot : Slot "list" name id) (hty : typeOf (.builtin id) = pure (.type "method_descriptor")) (hm : MtD X id f) (ho : PD X W o mo) (ha : PAs X W (e :: es) ml)
    (hbase : attributeBase o name X.env (eval o X.env) = eval o X.env := by rfl)
    (hfew : ((backTo cpos (starEach (e :: es) X.env)).all (fun x => !x.1) && (backToKw cpos (keywordEach [] X.env)).all (fun x => x.1.isSome) && decide ((e :: es).length + ([] : List Keyword).length + (if ([] : List Keyword).isEmpty then 0 else 1) < 30)) = true := by rfl)
    (hline : (apos.endLine == cpos.line) = true := by rfl) (hs : starEach (e :: es) X.env = (false, eval e X.env) :: starEach es X.env := by rfl) (hplain : (backTo cpos (starEach es X.env)).any (·.1) = false := by rfl) :
    PD X W (.Call (.Attribute o name apos) (e :: es) [] cpos) (eMt mo ml f) := by
  refine PE.weak (pe_bmσ pa slot hty (fun σ => hm (fun c d H' => W c d σ H')) ho ha hbase hfew hline hs hplain) fun σ H Q ⟨μ, env, ah, he, hs, hp⟩ => ?_
  refine ⟨μ, env, ah, he, hs, hp.bind fun d ah1 μ1 x H1 e1 s1 r1 p1 => ?_⟩
  split at p1
  · rename_i hi
    have ty : tyV X.K "list" x H1 := by
      cases d with
      | ref n =>
        unfold isList at hi
        dsimp only at hi
        cases q : listAt ah1 n with
        | none => rw [q] at hi; cases hi
        | some xs => exact list_ty s1 r1 q
      | _ => cases hi
    refine ⟨ty, tG_next he e1 s1 (p1.bind fun ds ah2 μ2 vs H2 e2 s2 r2 p2 => ?_)⟩
    exact ⟨μ2, ah2, d, ds, s2, Rep.ext r1 e2, r2, p2⟩
  · exact p1.elim
theorem pd_ml0 (pa : PlainAttrs "list") (slot : Slot "list" name id) (hty : typeOf (.builtin id) = pure (.type "method_descriptor")) (hm : MtD X id f) (ho : PD X W o mo)
    (hbase : attributeBase o name X.env (eval o X.env) = eval o X.env := by rfl) (hline : (apos.endLine == cpos.line) = true := by rfl) : PD X W (.Call (.Attribute o name apos) [] [] cpos) (eMt mo aNil f) := by
  refine PE.weak (pe_bm0σ pa slot hty (fun σ => hm (fun c d H' => W c d σ H')) ho hbase hline) fun σ H Q ⟨μ, env, ah, he, hs, hp⟩ => ?_
  refine ⟨μ, env, ah, he, hs, hp.bind fun d ah1 μ1 x H1 e1 s1 r1 p1 => ?_⟩
  split at p1
  · rename_i hi
    have ty : tyV X.K "list" x H1 := by
      cases d with
      | ref n =>
        unfold isList at hi
        dsimp only at hi
        cases q : listAt ah1 n with
        | none => rw [q] at hi; cases hi
        | some xs => exact list_ty s1 r1 q
      | _ => cases hi
    exact ⟨ty, μ1, ah1, d, [], s1, r1, Reps.nil, p1⟩
  · exact p1.elim

/-! ### dicts with keys ints and texts -/
def oGet (d kd : D) (ah : AH) : Res D := match d, dKey kd with
  | .ref n, some kk => match ah[n]? with
    | some (.dK kvs) => match valD kvs kk with
      | some v => .ok v ah
      | none => .stuck
    | _ => .stuck
  | _, _ => .stuck
theorem val_get {K : PySem.W.Frag} {μ : List Addr} {H : Hp} {κ : Type} [DecidableEq κ] : ∀ {kvs : List (κ × D)} {kws : List (κ × V)} {kk : κ}, kvs.map (·.1) = kws.map (·.1) → Reps K μ H (kvs.map (·.2)) (kws.map (·.2)) → match valD kvs kk with
    | some d => ∃ v, valV kws kk = some v ∧ Rep K μ H d v
    | none => valV kws kk = none
  | [], [], kk, _, _ => rfl
  | [], _ :: _, _, h, _ => by simp at h
  | _ :: _, [], _, h, _ => by simp at h
  | (a, d) :: kvs, (b, v) :: kws, kk, h, r => by
    simp only [List.map_cons, List.cons.injEq] at h
    simp only [List.map_cons, Reps] at r
    obtain ⟨w, ws, e, r1, r2⟩ := r
    cases e
    obtain ⟨rfl, h2⟩ := h
    by_cases hk : a = kk
    · subst hk
      simp [valD, valV, r1]
    · have ih := val_get (kk := kk) h2 r2
      have e1 : valD ((a, d) :: kvs) kk = valD kvs kk := by simp [valD, hk]
      have e2 : valV ((a, v) :: kws) kk = valV kws kk := by simp [valV, hk]
      rw [e1, e2]; exact ih
theorem pd_get {i : Expr} {mi : EM D} (hr : Rm k X.A) (ho : PD X W o mo) (hi : PD X W i mi) (hs : NoSl i := by exact fun _ _ => rfl) : PD X W (.Subscript o i pos) (e2 mo mi oGet) := by
  refine PE.weak (pe_dget hr.u1 ho hi hs) fun σ H Q ⟨μ, env, ah, he, hs, hp⟩ => ?_
  refine ⟨μ, env, ah, he, hs, hp.bind fun d ah1 μ1 x H1 e1 s1 r1 p1 => ?_⟩
  refine tG_next he e1 s1 (p1.bind fun kd ah2 μ2 y H2 e2 s2 r2 p2 => ?_)
  unfold oGet at p2
  split at p2
  · rename_i n kk ek
    obtain ⟨a, ea, rfl⟩ := d_ref (Rep.ext (show Rep X.K μ1 H1 (.ref n) x from r1) e2)
    split at p2
    · rename_i kvs q
      split at p2
      · rename_i v ev
        obtain ⟨kws, h1, h2, r⟩ := s2.ok n a _ ea q
        have z := val_get (kk := kk) h2 r
        rw [ev] at z
        obtain ⟨u, eu, ru⟩ := z
        refine ⟨a, u, rfl, ?_, Post.ok1 (R := RD X.K) p2 s2 ru⟩
        rw [dKey_v ek r2, ← eu]
        exact DGet.k h1
      · exact p2.elim
    · exact p2.elim
  · exact p2.elim
def putD {κ : Type} [DecidableEq κ] (kvs : List (κ × D)) (kk : κ) (v : D) : List (κ × D) := if (kvs.any fun kv => decide (kv.1 = kk)) = true then kvs.map (fun kv => if kv.1 = kk then (kv.1, v) else kv) else kvs ++ [(kk, v)]
theorem put_rel {K : PySem.W.Frag} {μ : List Addr} {H : Hp} {κ : Type} [DecidableEq κ] {kvs : List (κ × D)} {kws : List (κ × V)} {kk : κ} {d : D} {v : V} (h : kvs.map (·.1) = kws.map (·.1)) (r : Reps K μ H (kvs.map (·.2)) (kws.map (·.2))) (rd : Rep K μ H d v) :
    (putD kvs kk d).map (·.1) = (putK kws kk v).map (·.1) ∧ Reps K μ H ((putD kvs kk d).map (·.2)) ((putK kws kk v).map (·.2)) := by
  have ha : (kvs.any fun kv => decide (kv.1 = kk)) = kws.any fun kv => decide (kv.1 = kk) := by
    have e1 : (kvs.any fun kv => decide (kv.1 = kk)) = (kvs.map (·.1)).any fun x => decide (x = kk) := by rw [List.any_map]; rfl
    have e2 : (kws.any fun kv => decide (kv.1 = kk)) = (kws.map (·.1)).any fun x => decide (x = kk) := by rw [List.any_map]; rfl
    rw [e1, e2, h]
  unfold putD putK
  rw [ha]
  split
  · rename_i hh
    clear ha hh
    induction kvs generalizing kws with
    | nil =>
      cases kws with
      | nil => exact ⟨rfl, Reps.nil⟩
      | cons _ _ => simp at h
    | cons p kvs ih =>
      cases kws with
      | nil => simp at h
      | cons q kws =>
        obtain ⟨a, x⟩ := p
        obtain ⟨b, y⟩ := q
        simp only [List.map_cons, List.cons.injEq] at h
        simp only [List.map_cons, Reps] at r
        obtain ⟨w, ws, e, r1, r2⟩ := r
        cases e
        obtain ⟨rfl, h2⟩ := h
        obtain ⟨i1, i2⟩ := ih h2 r2
        by_cases hk : a = kk
        · simp only [List.map_cons, if_pos hk]
          exact ⟨by rw [i1], Reps.cons rd i2⟩
        · simp only [List.map_cons, if_neg hk]
          exact ⟨by rw [i1], Reps.cons r1 i2⟩
  · simp only [List.map_append, List.map_cons, List.map_nil]
    exact ⟨by rw [h], r.append (Reps.cons rd Reps.nil)⟩
/-- d[k] = v -/
def sPut (mo mi mv : EM D) : SM := fun env ah => (mv env ah).thenS env fun v ah1 => (mo env ah1).thenS env fun d ah2 => (mi env ah2).thenS env fun kd ah3 => match d, dKey kd with
  | .ref n, some kk => match ah3[n]? with
    | some (.dK kvs) => if kvs.length < line then .nx env (ah3.set n (.dK (putD kvs kk v))) else .stuck
    | _ => .stuck
  | _, _ => .stuck
theorem pz_put {i v : Expr} {mi mv : EM D} {pos' : Pos} (hr : Rm k X.A) (ho : PD X W o mo) (hi : PD X W i mi) (hv : PD X W v mv) (hs : swapsWith v (some (.Subscript o i pos')) pos.line X.env = pure false := by rfl) : PZ X W (.Assign [.Subscript o i pos'] v pos) (sPut mo mi mv) := by
  refine PS.weak (ps_dput hr.u1 ho hi hv hs) fun D σ H ⟨μ, env, ah, he, hs, hp⟩ => ?_
  refine ⟨μ, env, ah, he, hs, PostS.bind hp he fun v ah1 μ1 w H1 e1 s1 r1 p1 => ?_⟩
  refine ⟨μ1, env, ah1, he.ext e1, s1, PostS.bind p1 (he.ext e1) fun d ah2 μ2 x H2 e2 s2 r2 p2 => ?_⟩
  refine ⟨μ2, env, ah2, he.ext (e1.trans e2), s2, PostS.bind p2 (he.ext (e1.trans e2)) fun kd ah3 μ3 y H3 e3 s3 r3 p3 => ?_⟩
  split at p3
  · rename_i n kk ek
    obtain ⟨a, ea, rfl⟩ := d_ref (Rep.ext (show Rep X.K μ2 H2 (.ref n) x from r2) e3)
    split at p3
    · rename_i kvs q
      split at p3
      · rename_i hl
        obtain ⟨kws, h1, h2, r⟩ := s3.ok n a _ ea q
        have hlen : kvs.length = kws.length := by simpa using congrArg List.length h2
        have rw1 : Rep X.K μ3 H3 v w := Rep.ext (Rep.ext r1 e2) e3
        obtain ⟨z1, z2⟩ := put_rel (kk := kk) h2 r rw1
        refine ⟨a, upd H3 a (.dK (putK kws kk w)), rfl, ?_, ?_⟩
        · rw [dKey_v ek r3]
          exact DPut.k h1 (Nat.lt_of_lt_of_le (by rw [← hlen]; exact hl) (line_le (Nat.le_refl _)))
        · have hn : n ≠ 0 := fun z => by
            have := (s3.ro0 n _ q).mpr z
            cases this
          have mu := (s3.ok n a _ ea q).there rfl
          exact p3 μ3 σ _ (Ext.put ea hn mu) (s3.put ea q rfl rfl fun ht => ⟨_, upd_same, z1, Reps.mono (List.prefix_refl _) ht _ _ z2⟩) ((he.ext ((e1.trans e2).trans e3)).ext (Ext.put ea hn mu))
      · exact p3.elim
    · exact p3.elim
  · exact p3.elim
/-- {} -/
def eDnew : EM D := fun _ ah => .ok (.ref ah.length) (ah ++ [.dK []])
theorem pd_dnew : PD X W (.Dict [] [] pos) eDnew := by
  refine PE.weak pe_dnewK fun σ H Q ⟨μ, env, ah, he, hs, hp⟩ p np => ?_
  refine hp (μ ++ [p]) (.ref p) _ (Ext.ours np hs.mpos) (hs.new np rfl ⟨[], upd_same, rfl, Reps.nil⟩) ?_
  show Rep _ _ _ _ _
  simp only [Rep]
  exact ⟨p, by rw [← hs.len]; simp, rfl⟩
/-- {k: v, ..} -/
def dispD (kvs : List (Key × D)) : List (Key × D) := kvs.foldl (fun acc kv => putD acc kv.1 kv.2) []
def dPairs : List (EM D × EM D) → EM (List (D × D))
  | [] => fun _ ah => .ok [] ah
  | (mk, mv) :: r => fun env ah => (mk env ah).bind fun x ah1 => (mv env ah1).bind fun y ah2 => (dPairs r env ah2).bind fun ps ah3 => .ok ((x, y) :: ps) ah3
def eDisp (l : List (EM D × EM D)) : EM D := fun env ah => (dPairs l env ah).bind fun ps ah1 => match optAll (fun p => (dKey p.1).map fun kk => (kk, p.2)) ps with
  | some kvs => if kvs.length ≤ 15 then .ok (.ref ah1.length) (ah1 ++ [.dK (dispD kvs)]) else .stuck
  | none => .stuck
end
end HA

/-! HA14: dict displays, keyword calls, pairs of targets, stores to lists, list(range), reversed slices. -/
namespace HA
open PySem PySem.Spec PyProof.Rows L2
section
variable {X : Cx} {W : WX} {k : Nat} {e : Expr} {es : List Expr} {m : EM D} {ml : EM (List D)} {pos : Pos}

/-! ### {k: v, ..} -/
theorem Sim.foreignM {K : PySem.W.Frag} {μ : List Addr} {H : Hp} {ah : AH} (S : Sim K μ H ah) {p : Addr} {u : HO} (hm : p ∉ μ.tail) (hp : Mut (H p)) : Sim K μ (upd H p u) ah := by
  refine ⟨S.len, S.nd, fun n a o e1 e2 => ?_, S.pos, S.ro0⟩
  refine (S.ok n a o e1 e2).mono (List.prefix_refl _) (TExt.mut hp) (fun q => ?_) fun ob v z => ?_
  · refine upd_ne fun z => ?_
    subst z
    have hn : n ≠ 0 := fun z => by
      have := (S.ro0 n o e2).mpr z
      rw [q] at this; cases this
    obtain ⟨k, rfl⟩ : ∃ k, n = k + 1 := ⟨n - 1, by omega⟩
    exact hm (List.mem_of_getElem? (i := k) (by rw [List.getElem?_tail]; exact e1))
  · rw [upd_ne fun w => by subst w; rw [z] at hp; exact hp]; exact z
theorem Ext.foreignM {K : PySem.W.Frag} {μ μ1 : List Addr} {H H1 : Hp} {p : Addr} {u : HO} (e : Ext K μ H μ1 H1) (h0 : H p = none) (hp : Mut (H1 p)) : Ext K μ H μ1 (upd H1 p u) where
  pre := e.pre
  tup := e.tup.trans (TExt.mut hp)
  new := e.new
  keep := fun a o hm h => by
    rw [upd_ne (fun z => by subst z; rw [h0] at h; cases h)]
    exact e.keep a o hm h
  there := fun a h => e.there a (there_upd a h)
def rps (K : PySem.W.Frag) (μ : List Addr) (H : Hp) (ps : List (D × D)) (qs : List (V × V)) : Prop := Reps K μ H (ps.map (·.1)) (qs.map (·.1)) ∧ Reps K μ H (ps.map (·.2)) (qs.map (·.2))
def RPs (K : PySem.W.Frag) : Rel (List (D × D)) (List (V × V)) := ⟨fun _ μ H ps qs => rps K μ H ps qs, fun _ h => h⟩
inductive PDs (X : Cx) (W : WX) : List (Option Expr) → List Expr → List (EM D × EM D) → Prop where
  | nil : PDs X W [] [] []
  | cons {a b : Expr} {ks : List (Option Expr)} {vs : List Expr} {ma mb : EM D} {l : List (EM D × EM D)} : PD X W a ma → PD X W b mb → PDs X W ks vs l → PDs X W (some a :: ks) (b :: vs) ((ma, mb) :: l)
theorem PDs.pps {ks : List (Option Expr)} {vs : List Expr} {l : List (EM D × EM D)} (h : PDs X W ks vs l) : PPs X pos ks vs (l.map fun p => (tG X.K (RD X.K) W p.1, tG X.K (RD X.K) W p.2)) := by
  induction h with
  | nil => exact pps_nil
  | cons h1 h2 _ ih => exact pps_cons h1 h2 ih
theorem pairs_step {P : List (V × V) → Hp → Prop} {σ : L2.St} : ∀ {l : List (EM D × EM D)} {μ : List Addr} {H : Hp} {env : Env} {ah : AH}, EnvRel X.K μ H env σ → Sim X.K μ H ah → Post X.K (RPs X.K) (fun c d H' => W c d σ H') μ H P (dPairs l env ah) →
    tPairs (l.map fun p => (tG X.K (RD X.K) W p.1, tG X.K (RD X.K) W p.2)) σ H P
  | [], μ, H, env, ah, he, hs, hp => Post.ok1 (R := RPs X.K) hp hs ⟨Reps.nil, Reps.nil⟩
  | (mk, mv) :: l, μ, H, env, ah, he, hs, hp => by
    refine ⟨μ, env, ah, he, hs, hp.bind fun x ah1 μ1 x' H1 e1 s1 r1 p1 => ?_⟩
    refine tG_next he e1 s1 (p1.bind fun y ah2 μ2 y' H2 e2 s2 r2 p2 => ?_)
    refine pairs_step (l := l) (he.ext (e1.trans e2)) s2 ?_
    cases q : dPairs l env ah2 with
    | ok ps ah3 =>
      rw [q] at p2
      intro μ3 qs H3 e3 s3 r3
      exact p2 μ3 ((x', y') :: qs) H3 e3 s3 ⟨Reps.cons (Rep.ext (Rep.ext r1 e2) e3) r3.1, Reps.cons (Rep.ext r2 e3) r3.2⟩
    | exn c fs ah3 => rw [q] at p2; exact p2
    | stuck => rw [q] at p2; exact p2
theorem disp_rel {K : PySem.W.Frag} {μ : List Addr} {H : Hp} : ∀ {kvs : List (Key × D)} {kws : List (Key × V)} {acc : List (Key × D)} {bcc : List (Key × V)}, kvs.map (·.1) = kws.map (·.1) → Reps K μ H (kvs.map (·.2)) (kws.map (·.2)) → acc.map (·.1) = bcc.map (·.1) → Reps K μ H (acc.map (·.2)) (bcc.map (·.2)) →
    (kvs.foldl (fun acc kv => putD acc kv.1 kv.2) acc).map (·.1) = (mergeK bcc kws).map (·.1) ∧ Reps K μ H ((kvs.foldl (fun acc kv => putD acc kv.1 kv.2) acc).map (·.2)) ((mergeK bcc kws).map (·.2))
  | [], [], acc, bcc, _, _, h, r => ⟨h, r⟩
  | [], _ :: _, _, _, h, _, _, _ => by simp at h
  | _ :: _, [], _, _, h, _, _, _ => by simp at h
  | (a, x) :: kvs, (b, y) :: kws, acc, bcc, h, r, h', r' => by
    simp only [List.map_cons, List.cons.injEq] at h
    simp only [List.map_cons, Reps] at r
    obtain ⟨w, ws, e, r1, r2⟩ := r
    cases e
    obtain ⟨rfl, h2⟩ := h
    obtain ⟨z1, z2⟩ := put_rel (kk := a) h' r' r1
    exact disp_rel (kvs := kvs) (kws := kws) h2 r2 z1 z2
theorem keys_rel {K : PySem.W.Frag} {μ : List Addr} {H : Hp} : ∀ {ps : List (D × D)} {qs : List (V × V)} {kvs : List (Key × D)}, optAll (fun p : D × D => (dKey p.1).map fun kk => (kk, p.2)) ps = some kvs → Reps K μ H (ps.map (·.1)) (qs.map (·.1)) → Reps K μ H (ps.map (·.2)) (qs.map (·.2)) →
    ∃ kws : List (Key × V), qs = kws.map (fun kv => (kV kv.1, kv.2)) ∧ kvs.map (·.1) = kws.map (·.1) ∧ Reps K μ H (kvs.map (·.2)) (kws.map (·.2))
  | [], qs, kvs, h, r1, r2 => by
    cases h
    simp only [List.map_nil, Reps, List.map_eq_nil_iff] at r1
    subst r1
    exact ⟨[], rfl, rfl, Reps.nil⟩
  | (a, b) :: ps, qs, kvs, h, r1, r2 => by
    obtain ⟨kv, cs, rfl, h1, h2⟩ := optAll_cons h
    obtain ⟨kk, hk, rfl⟩ := Option.map_eq_some_iff.mp h1
    cases qs with
    | nil => simp only [List.map_cons, List.map_nil, Reps] at r1; obtain ⟨_, _, e, _⟩ := r1; cases e
    | cons q qs =>
      obtain ⟨u, v⟩ := q
      simp only [List.map_cons, Reps] at r1 r2
      obtain ⟨_, _, e1, ra, rb⟩ := r1
      obtain ⟨_, _, e2, rc, rd⟩ := r2
      cases e1
      cases e2
      obtain ⟨kws, rfl, e3, r3⟩ := keys_rel h2 rb rd
      refine ⟨(kk, v) :: kws, ?_, ?_, ?_⟩
      · rw [dKey_v hk ra]; rfl
      · simp only [List.map_cons, e3]
      · exact Reps.cons rc r3
theorem pd_disp {keys : List (Option Expr)} {values : List Expr} {l : List (EM D × EM D)} (h : PDs X W keys values l) (hall : keys.all (·.isSome) = true := by rfl) (hl : keys.length = values.length := by rfl) (h0 : keys ≠ [] := by exact fun z => by cases z) (h15 : keys.length ≤ 15 := by decide) : PD X W (.Dict keys values pos) (eDisp l) := by
  refine PE.weak (pe_disp (PDs.pps h) hall hl h0 h15) fun σ H Q ⟨μ, env, ah, he, hs, hp⟩ p np => ?_
  have ex : Ext X.K μ H μ (upd H p (.dK [])) := Ext.other np
  refine pairs_step (μ := μ) (env := env) (ah := ah) (he.ext ex) (hs.other np) ?_
  unfold eDisp at hp
  cases q : dPairs l env ah with
  | ok ps ah1 =>
    rw [q] at hp
    intro μ1 qs H1 e1 s1 r1
    rw [Res.bind_ok] at hp
    split at hp
    · rename_i kvs ek
      split at hp
      · rename_i hc
        obtain ⟨kws, rfl, k1, k2⟩ := keys_rel ek r1.1 r1.2
        have hm : p ∉ μ1.tail := fun z => by
          rcases e1.new p z with w | w
          · exact hs.free np w
          · rw [upd_same] at w; cases w
        have hd : H1 p = some (.dK []) := e1.keep p _ (hs.free np) upd_same
        have hM : Mut (H1 p) := by rw [hd]; trivial
        have hlen : kvs.length = kws.length := by simpa using congrArg List.length k1
        refine ⟨hd, kws, rfl, by omega, ?_⟩
        have ht : TExt X.K H1 (upd H1 p (.dK (mergeK [] kws))) := TExt.mut hM
        have eH : Ext X.K μ H μ1 (upd H1 p (.dK (mergeK [] kws))) := Ext.foreignM (ex.trans e1) np hM
        obtain ⟨z1, z2⟩ := disp_rel (K := X.K) (μ := μ1 ++ [p]) (H := upd H1 p (.dK (mergeK [] kws))) (acc := []) (bcc := []) k1 (Reps.mono (List.prefix_append _ _) ht _ _ k2) rfl Reps.nil
        refine hp (μ1 ++ [p]) (.ref p) _ (eH.adopt np s1.mpos) (Sim.adopt (s1.foreignM hm hM) rfl hm ⟨_, upd_same, z1, z2⟩) ?_
        show Rep _ _ _ _ _
        simp only [Rep]
        exact ⟨p, by rw [← s1.len]; simp, rfl⟩
      · exact hp.elim
    · exact hp.elim
  | exn c fs ah1 => rw [q] at hp; exact fun μ' H' od e' s' x => hp μ' H' od (ex.trans e') s' x
  | stuck => rw [q] at hp; exact hp

/-! ### f(e, .., k = v, ..) -/
structure PKs (X : Cx) (W : WX) (kws : List Keyword) (m : EM (List D)) : Prop where
  pk : PK X kws (tG X.K (RA X.K) W m)
theorem PK.weak {kws : List Keyword} {t t' : TA} (h : PK X kws t) (k : ∀ σ H Q, t' σ H Q → t σ H Q) : PK X kws t' := ⟨fun p pins s σ H Q I q => h.run p pins s σ H Q I (k σ H Q q)⟩
theorem pks_nil : PKs X W [] aNil := ⟨PK.weak pk_nil fun σ H Q ⟨μ, env, ah, he, hs, hp⟩ => Post.ok1 (R := RA X.K) hp hs (show Reps X.K μ H [] [] from Reps.nil)⟩
theorem pks_cons {nm : Option Str} {kpos : Pos} {kws : List Keyword} {mes : EM (List D)} (ha : PD X W e m) (hr : PKs X W kws mes) : PKs X W (⟨nm, e, kpos⟩ :: kws) (aCons m mes) := by
  refine ⟨PK.weak (pk_cons ha hr.pk) fun σ H Q ⟨μ, env, ah, he, hs, hp⟩ => ?_⟩
  refine ⟨μ, env, ah, he, hs, hp.bind fun d ah1 μ1 x H1 e1 s1 r1 p1 => ?_⟩
  exact tG_next he e1 s1 (Post.cons r1 p1)
/-- how keywords' values are put in the parameters' order (no defaults) -/
structure KB (K : PySem.W.Frag) (fd : FuncData) (ps ks : List Str) (n : Nat) (g : {α : Type} → List α → List α → List α) : Prop where
  to : ∀ (s : Shared) (us ws : List Value), K.In s.heap → us.length = n → ws.length = ks.length → BindsTo s fd ⟨us, ks.zip ws⟩ (ps.zip (g us ws))
  len : ∀ {α : Type} (us ws : List α), us.length = n → ws.length = ks.length → (g us ws).length = ps.length
  rel : ∀ {vs : List V} {us : List Value} {zs : List V} {ws : List Value}, vs.length = n → zs.length = ks.length → Vals vs us → Vals zs ws → Vals (g vs zs) (g us ws)
  rep : ∀ {K' : PySem.W.Frag} {μ : List Addr} {H : Hp} {ds : List D} {vs : List V} {fs : List D} {zs : List V}, ds.length = n → fs.length = ks.length → Reps K' μ H ds vs → Reps K' μ H fs zs → Reps K' μ H (g ds fs) (g vs zs)
variable {f : Addr} {fd : FuncData} {ps ks : List Str} {mf : List D → AH → Res D} {x : Str} {p : Pos} {mk : EM (List D)} {kws : List Keyword} {g : {α : Type} → List α → List α → List α}
theorem pd_callK0 (F : FnG X.prog X.w X.K X.mg X.base k f fd ps mf) (hr : Rm k X.A) (hg : Gl X x) (hm : X.mg x = some (.ref f)) (hk : PySem.W.keepIn X.K (.ref f) = true) (hb : KB X.K fd ps ks 0 g) (tk : Takes X W) (ha : PKs X W kws mk) (hn : Many ks.length mk)
    (hall : (backToKw pos (keywordEach kws X.env)).all (·.1.isSome) = true := by rfl) (hks : (backToKw pos (keywordEach kws X.env)).filterMap (·.1) = ks := by rfl) (hdb : (x == ("__debug__" : Str)) = false := by decide)
    (hpl : ((backTo pos (starEach [] X.env)).any (·.1) || (backToKw pos (keywordEach kws X.env)).any (·.1.isNone)) = false := by rfl) : PD X W (.Call (.Name x p) [] kws pos) (e1 mk fun ds => mf (g [] ds)) := by
  refine ⟨fun pins s σ H Q I h => ?_⟩
  obtain ⟨μ, env, ah, hE, hs, hp⟩ := h
  refine wpAny_Call_Name_kw (ld_glob I hg hm ?_ hdb)
  refine PySem.W.callWith_KW0 (h₀ := X.base) I.ok.mod.kin hk hall (thn (ha.pk.run pos pins s σ H (fun vs H1 => vs.length = ks.length ∧ ∃ μ1 ah1 ds, ds.length = ks.length ∧ Sim X.K μ1 H1 ah1 ∧ Reps X.K μ1 H1 ds vs ∧ Post X.K (RD X.K) (fun c d H' => W c d σ H') μ1 H1 Q (mf (g [] ds) ah1)) I
    ⟨μ, env, ah, hE, hs, Post.many hn (hp.bind fun ds ah1 μ1 vs H1 e1 s1 r1 p1 hl => ⟨hl, μ1, ah1, ds, by rw [Reps.length (show Reps X.K μ1 H1 ds vs from r1)]; exact hl, s1, r1, p1⟩)⟩) fun ws s1 hz => ?_) hpl
  obtain ⟨vs, H1, I1, r, hl, μ1, ah1, ds, hd, s1', rd, p1⟩ := hz
  refine ⟨I1.kIn, ?_⟩
  rw [hks]
  have hw : ws.length = ks.length := by rw [← r.length]; exact hl
  exact call_G (vs := g [] vs) F hr tk I1 (hb.to s1 [] ws I1.kIn rfl hw) (hb.len [] vs rfl hl) (hb.rel rfl hl .nil r) s1' (hb.rep rfl hd Reps.nil rd) p1

/-! ### a, b = x, y and a, b, c = x, y, z -/
def sPar2 (i j : Nat) (ml : EM (List D)) : SM := fun env ah => (ml env ah).thenS env fun ds ah1 => match ds with
  | [x, y] => .nx ((env.set i (some x)).set j (some y)) ah1
  | _ => .stuck
theorem pz_par2 {i j : Nat} {x y : Str} {a b : Expr} {px py pt pt2 : Pos} {kt k2 : Nat} (hc : X.calm = true) (hN : X.N.Nodup) (hi : X.N[i]? = some x) (hj : X.N[j]? = some y) (hij : i ≠ j) (hx : X.env.scope.names.lookup x = some .local) (hy : X.env.scope.names.lookup y = some .local) (ha : PAs X W [a, b] ml)
    (hw : swappedStores [.Tuple [.Name x px, .Name y py] kt pt] (.Tuple [a, b] k2 pt2) X.env = pure (some [x, y])) (hs : swapsWithSole [.Tuple [.Name x px, .Name y py] kt pt] (.Tuple [a, b] k2 pt2) pos.line X.env = pure false := by rfl) :
    PZ X W (.Assign [.Tuple [.Name x px, .Name y py] kt pt] (.Tuple [a, b] k2 pt2) pos) (sPar2 i j ml) := by
  refine PS.weak (ps_par hc hN hi hj hij hx hy ha hw hs) fun D σ H ⟨μ, env, ah, he, hs, hp⟩ => ?_
  refine ⟨μ, env, ah, he, hs, PostS.bind hp he fun ds ah1 μ1 vs H1 e1 s1 r1 p1 => ?_⟩
  split at p1
  · obtain ⟨v, w, rfl, ra, rb⟩ := reps2 (show Reps X.K μ1 H1 _ vs from r1)
    exact ⟨v, w, rfl, post_next p1 s1 (((he.ext e1).set ra i).set rb j)⟩
  · exact p1.elim

/-! ### o[i] = v for lists -/
def sSetL (mo mi mv : EM D) : SM := fun env ah => (mv env ah).thenS env fun v ah1 => (mo env ah1).thenS env fun d ah2 => (mi env ah2).thenS env fun kd ah3 => match d, kd with
  | .ref n, .int i => match ah3[n]? with
    | some (.lst xs) => match ixN xs.length i with
      | some j => .nx env (ah3.set n (.lst (xs.set j v)))
      | none => .stuck
    | _ => .stuck
  | _, _ => .stuck
variable {o : Expr} {mo : EM D}
theorem pz_setL {i v : Expr} {mi mv : EM D} {pos' : Pos} (ho : PD X W o mo) (hi : PD X W i mi) (hv : PD X W v mv) (hs : swapsWithSole [.Subscript o i pos'] v pos.line X.env = pure false := by rfl) (hw : swappedStores [.Subscript o i pos'] v X.env = pure none := by rfl) (h1 : (assignEach [.Subscript o i pos'] X.env).map (·.2) = [assign (.Subscript o i pos') X.env] := by rfl)
    (ha : ∀ v, assign (.Subscript o i pos') X.env v = (do
      let ov ← holding [v] (eval o X.env)
      let iv ← holding [v, ov] (eval i X.env)
      standAt pos'
      holding [v, ov, iv] (setItem ov iv v)
      release [v, ov, iv] []) := by intro _; rfl) : PZ X W (.Assign [.Subscript o i pos'] v pos) (sSetL mo mi mv) := by
  refine PS.weak (ps_asg hv (pg_sub ho hi set_list ha) hs hw h1) fun D σ H ⟨μ, env, ah, he, hs, hp⟩ => ?_
  refine ⟨μ, env, ah, he, hs, PostS.bind hp he fun v ah1 μ1 w H1 e1 s1 r1 p1 => ?_⟩
  refine ⟨μ1, env, ah1, he.ext e1, s1, PostS.bind p1 (he.ext e1) fun d ah2 μ2 x H2 e2 s2 r2 p2 => ?_⟩
  refine ⟨μ2, env, ah2, he.ext (e1.trans e2), s2, PostS.bind p2 (he.ext (e1.trans e2)) fun kd ah3 μ3 y H3 e3 s3 r3 p3 => ?_⟩
  split at p3
  · rename_i n i
    obtain ⟨a, ea, rfl⟩ := d_ref (Rep.ext (show Rep X.K μ2 H2 (.ref n) x from r2) e3)
    rw [d_int (show Rep X.K μ3 H3 (.int i) y from r3)]
    split at p3
    · rename_i xs q
      split at p3
      · rename_i j ej
        obtain ⟨vs, h1, r⟩ := s3.ok n a _ ea q
        have rw1 : Rep X.K μ3 H3 v w := Rep.ext (Rep.ext r1 e2) e3
        refine ⟨a, vs, i, j, rfl, rfl, h1, by rw [← r.length]; exact ej, ?_⟩
        have hn : n ≠ 0 := fun z => by
          have := (s3.ro0 n _ q).mpr z
          cases this
        have mu := (s3.ok n a _ ea q).there rfl
        exact p3 μ3 σ _ (Ext.put ea hn mu) (s3.put ea q rfl rfl fun ht => ⟨_, upd_same, Reps.mono (List.prefix_refl _) ht _ _ (r.set j rw1)⟩) ((he.ext ((e1.trans e2).trans e3)).ext (Ext.put ea hn mu))
      · exact p3.elim
    · exact p3.elim
  · exact p3.elim

/-! ### list(range(..)) -/
def lRange (i j : Int) (ah : AH) : Res (List D) := if -(2 ^ 62) ≤ i ∧ i < 2 ^ 62 ∧ -(2 ^ 62) ≤ j ∧ j < 2 ^ 62 ∧ (j - i).toNat ≤ 2 ^ 24 then .ok ((List.range (j - i).toNat).map fun (n : Nat) => D.int (i + n)) ah else .stuck
def lRange1 (d : D) (ah : AH) : Res (List D) := match d with
  | .int j => lRange 0 j ah
  | _ => .stuck
def lRange2 (d f : D) (ah : AH) : Res (List D) := match d, f with
  | .int i, .int j => lRange i j ah
  | _, _ => .stuck
theorem rg_reps {K : PySem.W.Frag} {μ : List Addr} {H : Hp} (i j : Int) : Reps K μ H ((List.range (j - i).toNat).map fun (n : Nat) => D.int (i + n)) (rgV i j) := by
  have e : ((List.range (j - i).toNat).map fun (n : Nat) => D.int (i + n)) = ((List.range (j - i).toNat).map fun (n : Nat) => (i + n : Int)).map D.int := by rw [List.map_map]; rfl
  have e2 : rgV i j = ((List.range (j - i).toNat).map fun (n : Nat) => (i + n : Int)).map V.int := by unfold rgV; rw [List.map_map]; rfl
  rw [e, e2]
  exact Reps.of_ints _
theorem pl_range1 {a : Expr} {p p' pos' : Pos} {ma : EM D} (hc : X.calm = true) (hgl : Gl X "list") (hml : X.mg "list" = none) (hgr : Gl X "range") (hmr : X.mg "range" = none) (ha : PD X W a ma) (na : starEach [a] X.env = (false, eval a X.env) :: starEach [] X.env := by rfl)
    (na' : starEach [.Call (.Name "range" p') [a] [] pos] X.env = (false, eval (.Call (.Name "range" p') [a] [] pos) X.env) :: starEach [] X.env := by rfl) : PL X W (.Call (.Name "list" p) [.Call (.Name "range" p') [a] [] pos] [] pos') (e1 ma lRange1) := by
  refine PE.weak (pe_listRg hc hgl hml (prg_1 hgr hmr ha na) na') fun σ H Q ⟨μ, env, ah, he, hs, hp⟩ => ?_
  refine ⟨μ, env, ah, he, hs, hp.bind fun d ah1 μ1 x H1 e1 s1 r1 p1 => ?_⟩
  cases d with
  | int j =>
    unfold lRange1 lRange at p1
    dsimp only at p1
    split at p1
    · rename_i hl
      refine ⟨j, d_int (show Rep X.K μ1 H1 (.int j) x from r1), ⟨hl.1, hl.2.1, hl.2.2.1, hl.2.2.2.1, hl.2.2.2.2⟩, fun q nq => Post.newL p1 s1 (rg_reps 0 j) nq⟩
    · exact p1.elim
  | _ => exact p1.elim
theorem pl_range2 {a b : Expr} {p p' pos' : Pos} {ma mb : EM D} (hc : X.calm = true) (hgl : Gl X "list") (hml : X.mg "list" = none) (hgr : Gl X "range") (hmr : X.mg "range" = none) (ha : PD X W a ma) (hb : PD X W b mb) (na : starEach [a, b] X.env = (false, eval a X.env) :: starEach [b] X.env := by rfl) (nb : starEach [b] X.env = (false, eval b X.env) :: starEach [] X.env := by rfl) (hpp : (backTo pos (starEach [b] X.env)).any (·.1) = false := by rfl)
    (na' : starEach [.Call (.Name "range" p') [a, b] [] pos] X.env = (false, eval (.Call (.Name "range" p') [a, b] [] pos) X.env) :: starEach [] X.env := by rfl) : PL X W (.Call (.Name "list" p) [.Call (.Name "range" p') [a, b] [] pos] [] pos') (e2 ma mb lRange2) := by
  refine PE.weak (pe_listRg hc hgl hml (prg_2 hgr hmr ha hb na nb hpp) na') fun σ H Q ⟨μ, env, ah, he, hs, hp⟩ => ?_
  refine ⟨μ, env, ah, he, hs, hp.bind0 fun d ah1 μ1 x H1 e1 s1 r1 p1 => ?_⟩
  have p1 := Post.ext e1 p1
  refine tG_next he e1 s1 (p1.bind fun f ah2 μ2 y H2 e2 s2 r2 p2 => ?_)
  cases d with
  | int i =>
    cases f with
    | int j =>
      unfold lRange2 lRange at p2
      dsimp only at p2
      split at p2
      · rename_i hl
        exact ⟨i, j, d_int (Rep.ext (show Rep X.K μ1 H1 (.int i) x from r1) e2), d_int (show Rep X.K μ2 H2 (.int j) y from r2), ⟨hl.1, hl.2.1, hl.2.2.1, hl.2.2.2.1, hl.2.2.2.2⟩, fun q nq => Post.newL p2 s2 (rg_reps i j) nq⟩
      · exact p2.elim
    | _ => exact p2.elim
  | _ => exact p2.elim
end
end HA

/-! HA15: t[::-1], xs[::-1]. -/
namespace HA
open PySem PySem.Spec PyProof.Rows L2
section
variable {prog : Program} {w : World} {A : Around} {E : Value → Shared → Prop} {s : Shared}
theorem fm_congr {α β : Type} {f g : α → Option β} : ∀ {l : List α}, (∀ x ∈ l, f x = g x) → l.filterMap f = l.filterMap g
  | [], _ => rfl
  | a :: l, h => by
    rw [List.filterMap_cons, List.filterMap_cons, h a List.mem_cons_self, fm_congr (l := l) fun x hx => h x (List.mem_cons_of_mem _ hx)]
theorem rev_adjust (n : Nat) : Builtin.Slice.sliceAdjust none none (-1) (n : Int) = ((n : Int) - 1, -1) := by
  unfold Builtin.Slice.sliceAdjust
  simp
theorem rev_places (n : Nat) : Builtin.Slice.slicePlaces ((n : Int) - 1) (-1) (-1) = n := by
  unfold Builtin.Slice.slicePlaces
  have h1 : ¬ ((-1 : Int) > 0) := by decide
  simp only [h1, if_false]
  split <;> simp <;> omega
theorem rev_pick (xs : Array Value) : ((List.range xs.size).filterMap fun (j : Nat) => xs[(((xs.size : Int) - 1) + (j : Int) * (-1)).toNat]?).toArray = xs.toList.reverse.toArray := by
  have e : (List.range xs.size).filterMap (fun (j : Nat) => xs[(((xs.size : Int) - 1) + (j : Int) * (-1)).toNat]?) = ((List.range xs.size).map fun j => xs.size - 1 - j).filterMap (xs[·]?) := by
    rw [List.filterMap_map]
    refine fm_congr fun j hj => ?_
    have := List.mem_range.mp hj
    show _ = xs[xs.size - 1 - j]?
    congr 1
    omega
  rw [e, PySem.W.krv_range, List.filterMap_reverse, PySem.W.krv_all]
theorem getItem_tuple_rev {t sl : Addr} {items : Array Value} {vl vu vs : Value} {Q : Value → Shared → Prop} (ht : IsTup s.heap t items) (hs : s.heap.IsSliceOf sl vl vu vs) (pl : IsPart vl none) (pu : IsPart vu none) (ps : IsPart vs (some (-1)))
    (h : Q (.ref s.heap.objs.size) { s with heap := s.heap.push { cls := .type "tuple", data := .seq items.toList.reverse.toArray } }) (hsz : items.size ≤ sizeLine) : wpAny (model prog w) A (getItem (.ref t) (.ref sl)) Q E s := by
  have fits : sizeOk (.seq items.toList.reverse.toArray) := by
    show items.toList.reverse.toArray.size ≤ sizeLine
    rw [List.size_toArray, List.length_reverse, Array.length_toList]
    exact hsz
  obtain ⟨os, hos, hcs, hds⟩ := id hs
  have isSl : s.TypeIs (.ref sl) "slice" := ⟨os, hos, hcs⟩
  unfold getItem
  try with_reducible refine wpAny_holding ?_
  first | refine wpAny_bind (wpAny_pure ?_) | skip
  refine wpAny_bind (wpAny_sequenceKey ht.typeIs (by decide) ?_)
  refine wpAny_bind (wpAny_callSpecial?_slot (name := Str.ofString "__getitem__") ht.typeIs PyProof.Rows.slot_tuple_getitem (wpAny_call_entry PyProof.Rows.slot_tuple_getitem ht.typeIs entry_tuple_getitem ?_ (args_tuple_getitem _ _)))
  show wpAny _ _ (Builtin.Tuple.tupleItemsOf (.ref t) >>= _) _ _ s
  refine wpAny_bind (tupleItemsOf_ ht ?_)
  refine wpAny_bind (wpAny_typeOf isSl ?_)
  rw [if_pos (by decide)]
  have app : ∀ {A : Around} {Q : Int × Int × Nat → Shared → Prop}, Q ((items.size : Int) - 1, -1, items.size) s → wpAny (model prog w) A (Builtin.Slice.sliceApplied (.ref sl) (pure (items.size : Int))) Q E s := fun {A Q} hq => by
    unfold Builtin.Slice.sliceApplied Builtin.Slice.sliceFields
    refine wpAny_bind (wpAny_bind (wpAny_field hos hds (x := vl) rfl (wpAny_bind (wpAny_field hos hds (x := vu) rfl (wpAny_bind (wpAny_field hos hds (x := vs) rfl (wpAny_pure ?_)))))))
    refine wpAny_bind (HT.slicePart_ ps ?_)
    show wpAny _ _ (if ((-1 : Int) == 0) = true then _ else _) _ _ s
    rw [if_neg (by decide)]
    refine wpAny_bind (HT.slicePart_ pl (wpAny_bind (HT.slicePart_ pu (wpAny_bind (wpAny_pure ?_)))))
    show wpAny _ _ (match Builtin.Slice.sliceAdjust none none (-1) (items.size : Int) with | (lo, hi) => pure (lo, (-1 : Int), Builtin.Slice.slicePlaces lo hi (-1))) _ _ s
    rw [rev_adjust]
    show wpAny _ _ (pure ((items.size : Int) - 1, (-1 : Int), Builtin.Slice.slicePlaces ((items.size : Int) - 1) (-1) (-1))) _ _ s
    rw [rev_places]
    exact wpAny_pure hq
  refine wpAny_bind (app ?_)
  have no : ¬ ((((items.size : Int) - 1 == 0) && ((-1 : Int) == 1) && (items.size == items.size)) = true) := by simp
  show wpAny _ _ (if (((items.size : Int) - 1 == 0) && ((-1 : Int) == 1) && (items.size == items.size)) = true then _ else _) _ _ s
  rw [if_neg no, rev_pick]
  first
    | exact wpAny_bind (m := Builtin.Tuple.tupleExact _) (wpAny_newObj_type (wpAny_pure ⟨_, rfl, wpAny_pure h⟩) fits)
    | exact wpAny_bind (m := Builtin.Tuple.tupleExact _) (wpAny_newObj_type (wpAny_bind (wpAny_pure (wpAny_pure ⟨_, rfl, wpAny_pure h⟩))) fits)
    | exact wpAny_bind (wpAny_bind (m := Builtin.Tuple.tupleExact _) (wpAny_newObj_type (wpAny_pure (wpAny_pure ⟨_, rfl, wpAny_pure h⟩)) fits))
    | exact wpAny_bind (wpAny_bind (m := Builtin.Tuple.tupleExact _) (wpAny_newObj_type (wpAny_pure ⟨_, rfl, wpAny_pure h⟩) fits))
end
section
variable {X : Cx} {W : WX} {k : Nat} {e : Expr} {m : EM D} {pos : Pos}
def tRevT (K : PySem.W.Frag) (te : TE) : TE := fun σ H Q => te σ H fun x H1 => ∃ a xs, x = .ref a ∧ SqT K H1 a xs ∧ ∀ p, H1 p = none → Q (.ref p) (upd H1 p (.tup xs.reverse))
theorem pe_revT {te : TE} {j : Nat} {p1 p2 p3 : Pos} (he : PE X e te) : PE X (.Subscript e (.Slice none none (some (.UnaryOp .USub (.Constant (.int 1) j p1) p2)) p3) pos) (tRevT X.K te) := by
  refine ⟨fun pins s σ H Q I h => ?_⟩
  refine Subscript_ (thn (he.run pins s σ H _ I h) fun v s1 ⟨x, H1, I1, r1, q1⟩ => ?_)
  obtain ⟨a, xs, ex, hx, q⟩ := q1
  subst ex
  cases r1
  have back : PO X (some (.UnaryOp .USub (.Constant (.int 1) j p1) p2)) (tPart (tUn (rU fun i => .int (-i)) (tC (.int 1)))) := po_some (pe_un un_neg pe_int)
  refine wpAny_Slice (thn (po_none.run pins s1 σ H1 (fun o H' => o = none ∧ H' = H1) I1 ⟨rfl, rfl⟩) fun vl s2 ⟨l, H2, I2, pl, el, e2⟩ => ?_)
  subst el e2
  refine thn (po_none.run pins s2 σ H2 (fun o H' => o = none ∧ H' = H2) I2 ⟨rfl, rfl⟩) fun vu s3 ⟨u, H3, I3, pu, eu, e3⟩ => ?_
  subst eu e3
  refine thn (back.run pins s3 σ H3 (fun o H' => o = some (-1) ∧ H' = H3) I3 ⟨1, rfl, -1, rfl, rfl, rfl⟩) fun vs s4 ⟨o, H4, I4, ps, eo, e4⟩ => ?_
  subst eo e4
  have I5 : Inv X pins σ H4 { s4 with heap := s4.heap.push { cls := .type "slice", data := .fields #[vl, vu, vs] } } := I4.kept (t' := s4.toks) fun b ob q => Heap.get?_push_of_some _ q
  obtain ⟨its, r, ht, hz⟩ := I5.tuple hx
  have hl := r.length
  show wpAny (model X.prog X.w) X.A (subscriptTail e (.Slice none none (some (.UnaryOp .USub (.Constant (.int 1) j p1) p2)) p3) (.ref a) (.ref s4.heap.objs.size)) (EP X pins σ Q) X.xe { s4 with heap := s4.heap.push { cls := .type "slice", data := .fields #[vl, vu, vs] } }
  refine tail_any (ops := [.ref a, .ref s4.heap.objs.size]) ht.typeIs PyProof.Rows.slot_tuple_getitem.lookup ?_ (by with_unfolding_all rfl)
  refine getItem_tuple_rev ht (Heap.IsSliceOf.new _ vl vu vs) pl pu ps ?_ (by rw [List.size_toArray]; omega)
  refine ⟨.ref _, _, I5.laid (t' := s4.toks) (o := .tup xs.reverse) (fun b ob q => Heap.get?_push_of_some _ q) (Nat.le_refl _) ?_, rfl, q _ (I5.hok.fresh (Nat.le_refl _))⟩
  refine ⟨by rw [List.length_reverse]; exact hz, _, r.reverse, ?_⟩
  have := IsTup.new (s4.heap.push { cls := .type "slice", data := .fields #[vl, vu, vs] }) its.reverse.toArray
  simpa using this
def oRevT (d : D) (ah : AH) : Res D := match d with
  | .tup ds => .ok (.tup ds.reverse) ah
  | _ => .stuck
theorem pd_revT {j : Nat} {p1 p2 p3 : Pos} (he : PD X W e m) : PD X W (.Subscript e (.Slice none none (some (.UnaryOp .USub (.Constant (.int 1) j p1) p2)) p3) pos) (e1 m oRevT) := by
  refine PE.weak (pe_revT he) fun σ H Q ⟨μ, env, ah, he, hs, hp⟩ => ?_
  refine ⟨μ, env, ah, he, hs, hp.bind fun d ah1 μ1 x H1 e1 s1 r1 p1 => ?_⟩
  cases d with
  | tup ds =>
    obtain ⟨a, vs, rfl, q, r⟩ := d_tup (show Rep X.K μ1 H1 (.tup ds) x from r1)
    exact ⟨a, vs, rfl, q, fun p np => Post.newT p1 s1 r.reverse np⟩
  | _ => exact p1.elim
def lRevL (ds : List D) (ah : AH) : Res (List D) := .ok ds.reverse ah
theorem pl_revL {ml : EM (List D)} {j : Nat} {p1 p2 p3 : Pos} (he : PM X W e ml) : PL X W (.Subscript e (.Slice none none (some (.UnaryOp .USub (.Constant (.int 1) j p1) p2)) p3) pos) (e1 ml lRevL) := by
  refine PE.weak (pe_revL he) fun σ H Q ⟨μ, env, ah, he, hs, hp⟩ => ?_
  refine ⟨μ, env, ah, he, hs, hp.bind0 fun ds ah1 μ1 x H1 e1 s1 r1 p1 => ?_⟩
  obtain ⟨a, vs, rfl, q, r⟩ := r1
  refine ⟨a, vs, rfl, q, fun p np => ?_⟩
  exact p1 μ1 _ _ (e1.trans (Ext.other np)) (s1.other np) ⟨p, _, rfl, e1.there p np, upd_same, s1.free np, (r.ext (Ext.other np)).reverse⟩
end
end HA

/-! HA16: the end: the law's call from its mirror; constants of the module. -/
namespace HA
open PySem PySem.Spec PyProof.Rows L2

/-- the script alone -/
abbrev ah0 (ns : List Int) : AH := [.ro (ns.map D.int)]
section
variable {P : Program} {w : World} {K : PySem.W.Frag} {mg mb : Str → Option Value} {k : Nat} {fa a : Addr} {fd : FuncData} {x : Str} {m : List D → AH → Res D} {s₁ : Shared} {vs : List Value} {ns : List Int}
theorem sim0 {H : Hp} (h : (∃ o, H a = some (.frz o (.lst (ns.map V.int)))) ∨ ∃ (o : Obj) (its : Array Value) (n : Nat), K.lookup a = some o ∧ o.cls = .type "list" ∧ o.dict = none ∧ o.data = .seq its n ∧ its.size ≤ sizeLine ∧ Vals (ns.map V.int) its.toList) : Sim K [a] H (ah0 ns) := by
  refine ⟨rfl, fun n j b o o' e1 e2 e3 e4 r1 r2 => ?_, fun n b o e1 e2 => ?_, by simp, fun n o e => ?_⟩
  · cases n with
    | zero => simp at e3; subst e3; cases r1
    | succ n => simp at e3
  · cases n with
    | zero =>
      simp at e1 e2
      subst e1; subst e2
      exact ⟨ns.map V.int, h, Reps.of_ints ns⟩
    | succ n => simp at e2
  · cases n with
    | zero => simp at e; subst e; simp [AObj.isRo]
    | succ n => simp at e
theorem law_G (KX : K.In s₁.heap) (gl : s₁.heap.Ns mainGlobals mg) (bn : s₁.heap.Ns builtinsNs mb) (bb : ∀ x : Str, x ≠ "__name__" → mb x = bootBuiltins x) (nl : s₁.heap.NoLimit) (g0 : s₁.gens = #[])
    (ha : s₁.heap.get? a = some { cls := .type "list", data := .seq vs.toArray }) (hi : IntsAre vs ns) (hl : ns.length ≤ sizeLine) (hr : Rm k callerA)
    (F : ∀ base : Heap, K.In base → base.Ns mainGlobals mg → FnG P w K mg base k fa fd [x] m) (bd : ∀ (s : Shared) (u : Value), BindsTo s fd ⟨[u], []⟩ [(x, u)])
    (hm : ∃ ah', m [.ref 0] (ah0 ns) = .ok (.bl true) ah') :
    codeAny (model P w) callerA (.call (.ref fa) ⟨[.ref a], []⟩) (fun r s' => r = .ok (.ret (.bool true)) ∧ OldK s₁.heap s'.heap ∧ s'.os = s₁.os ∧ AllBare s'.gens) s₁ := by
  obtain ⟨ah', hm⟩ := hm
  have rv := vals_ints hi
  have lv := hi.length
  have main : ∀ H : Hp, Sim K [a] H (ah0 ns) → Only H → HOk P w H s₁.heap → (∀ b, H b ≠ none → b = a) → (H a ≠ none → K.lookup a = none) →
      codeAny (model P w) callerA (.call (.ref fa) ⟨[.ref a], []⟩) (fun r s' => r = .ok (.ret (.bool true)) ∧ OldK s₁.heap s'.heap ∧ s'.os = s₁.os ∧ AllBare s'.gens) s₁ := fun H S only ok at1 un1 => by
    have no : ∀ {b : Addr} {o : Obj} {es : Array DictEntry} {ep : Nat}, s₁.heap.get? b = some o → o.data = .dict es ep → H b = none := fun {b o es ep} e d => by
      cases q : H b with
      | none => rfl
      | some u =>
        obtain rfl : b = a := at1 b (by rw [q]; simp)
        rw [ha] at e
        cases e
        cases (show Data.seq vs.toArray _ = Data.dict es ep from d)
    have ns1 : ∀ {b : Addr} {f : Str → Option Value}, s₁.heap.Ns b f → (hidT s₁.heap H).Ns b f := fun {b f} ⟨o, es, ep, e, d, r⟩ => ⟨o, es, ep, hidT_get e (no e d), d, r⟩
    have kin : K.In (hidT s₁.heap H) := fun b o e => hidT_get (KX b o e) (by
      cases q : H b with
      | none => rfl
      | some u =>
        obtain rfl : b = a := at1 b (by rw [q]; simp)
        rw [un1 (by rw [q]; simp)] at e
        cases e)
    obtain ⟨mc, l1, l2⟩ := nl
    have env0 : Env0 P w K mg (hidT s₁.heap H) callerA [] s₁ H := ⟨rfl, ⟨kin, ns1 gl, ⟨mb, ns1 bn, bb⟩, ⟨mc, ns1 l1, l2⟩⟩, fun b o e => of_hidT e, Nat.le_of_eq (hidT_size _ _), trivial, fun b hb => (by cases hb), ok, .of_eq g0⟩
    have rd : Reps K [a] H [.ref 0] [.ref a] := Reps.cons (by simp only [Rep]; exact ⟨a, rfl, rfl⟩) Reps.nil
    refine codeAny_mono ((F _ kin (ns1 gl)).run callerA [] s₁ H ⟨[.ref a], []⟩ [.ref a] [.ref a] (fun v _ => v = .bl true) (fun _ _ _ => False) [a] [.ref 0] (ah0 ns) hr env0 (bd s₁ (.ref a)) (.cons rfl .nil) rfl S rd (by rw [hm]; intro μ' y H' _ _ r; exact d_bl (K := K) (μ := μ') (H := H') r)) fun r s' h => ?_
    cases r with
    | error e => obtain ⟨_, _, _, _, _, _, _, _, _, _, _, _, z⟩ := h; exact z.elim
    | ok fl =>
      cases fl with
      | next => exact h.elim
      | brk => exact h.elim
      | cont => exact h.elim
      | ret u =>
        obtain ⟨v, H', os, bare, un, ok', r', q⟩ := h
        obtain rfl : v = .bl true := q
        obtain rfl : u = Value.bool true := r'
        refine ⟨rfl, OldK.of_keep fun b o e => ?_, os, bare⟩
        cases q : H b with
        | none => exact un.keep b o e q (fun z => by cases z) (by simp)
        | some u =>
          rcases only b with z | ⟨ob, xs, z⟩
          · rw [q] at z; cases z
          · obtain ⟨e1, _⟩ := ok b _ z
            obtain ⟨e2, _⟩ := ok' b _ (un.frzs b ob _ z)
            rw [e] at e1
            cases e1
            exact e2
  cases hk : K.lookup a with
  | some o =>
    have e := KX a o hk
    rw [ha] at e
    cases e
    refine main (fun _ => none) (sim0 (.inr ⟨_, vs.toArray, _, hk, rfl, rfl, rfl, by rw [List.size_toArray, lv]; exact hl, by simpa using rv⟩)) (fun _ => .inl rfl) (fun b u z => by cases (show (none : Option HO) = some u from z)) (fun b z => (z rfl).elim) fun z => (z rfl).elim
  | none =>
    let o : Obj := { cls := .type "list", data := .seq vs.toArray }
    let H : Hp := fun b => if b = a then some (.frz o (.lst (ns.map V.int))) else none
    have at_a : H a = some (.frz o (.lst (ns.map V.int))) := if_pos rfl
    have off : ∀ b, b ≠ a → H b = none := fun b h => if_neg h
    refine main H (sim0 (.inl ⟨o, at_a⟩)) (fun b => ?_) (fun b u z => ?_) (fun b z => ?_) fun _ => hk
    · by_cases hb : b = a
      · subst hb; exact .inr ⟨_, _, at_a⟩
      · exact .inl (off b hb)
    · by_cases hb : b = a
      · subst hb
        rw [at_a] at z
        cases z
        exact ⟨ha, by rw [List.length_map]; exact hl, vs, _, rv, ha⟩
      · rw [off b hb] at z; cases z
    · by_cases hb : b = a
      · exact hb
      · exact (z (off b hb)).elim
end
/-- THE END of a law -/
theorem walk_G {l : PySem.W.OpenLaw} {k : Nat} {q : Program} {loose : List Str} {XP : (Str → Option Value) → Heap → Prop} {YP : World → Heap → Prop} {d : DefRec} {K : Params → PySem.W.Frag} {x : Str} {m : List D → AH → Res D}
    (hn : l.most = some 63) (hdf : d.params.defaults = []) (hr : Rm k callerA) (hY : ∀ (w : World) (h : Heap), YP w h → (K w.params).In h)
    (F : ∀ (w : World) (mg : Str → Option Value) (fa : Addr) (h : Heap), (K w.params).In h → h.Ns mainGlobals mg → mg d.name = some (.ref fa) →
      ∃ fd : FuncData, (∀ (s : Shared) (u : Value), BindsTo s fd ⟨[u], []⟩ [(x, u)]) ∧ ∀ base : Heap, (K w.params).In base → base.Ns mainGlobals mg → FnG l.prog w (K w.params) mg base k fa fd [x] m)
    (hm : ∀ ns : List Int, ns.length ≤ 63 → ∃ ah', m [.ref 0] (ah0 ns) = .ok (.bl true) ah') : PySem.W.WalkO q loose XP YP l.row.toRowW d [] (fun f vs => PySem.call f vs) := by
  refine Att.attach_call hn hdf fun w s₀ s₁ mg mb fa o pm cd doc a vs ns G Y ho hd hcd hmg hobj hints hlen hg => ?_
  have KX := hY w _ Y
  obtain ⟨fd, hb, hF⟩ := F w mg fa _ KX G.T.g hmg
  exact law_G KX G.T.g G.T.b G.T.builtins G.T.nolimit hg hobj hints (Nat.le_trans hlen (by decide)) hr hF hb (hm ns hlen)
theorem rm_caller {k : Nat} (h : k ≤ 200) : Rm k callerA := ⟨⟨rfl, by show 1 + claimMargin + 3 * k + 5 < recursionLimit; unfold claimMargin recursionLimit; omega, by show 4 + 16 * k + 200 < cLine; unfold cLine; omega⟩, rfl⟩

/-! ### constants of the module -/
/-- a value of the written part as a datum -/
def CR (K : PySem.W.Frag) (u : Value) (d : D) : Prop := ∃ v, RelV v u ∧ ∀ μ H, Rep K μ H d v
theorem cr_int {K : PySem.W.Frag} {i : Int} {t : Tok} : CR K (.int i t) (.int i) := ⟨.int i, ⟨t, rfl⟩, fun _ _ => by simp only [Rep]⟩
theorem cr_str {K : PySem.W.Frag} {i : Str} {t : Tok} : CR K (.str i t) (.str i) := ⟨.str i, ⟨t, rfl⟩, fun _ _ => by simp only [Rep]⟩
theorem cr_bl {K : PySem.W.Frag} {b : Bool} : CR K (.bool b) (.bl b) := ⟨.bl b, rfl, fun _ _ => by simp only [Rep]⟩
theorem cr_non {K : PySem.W.Frag} : CR K .none .non := ⟨.non, rfl, fun _ _ => by simp only [Rep]⟩
inductive CRs (K : PySem.W.Frag) : List Value → List D → Prop where
  | nil : CRs K [] []
  | cons {u : Value} {d : D} {us : List Value} {ds : List D} : CR K u d → CRs K us ds → CRs K (u :: us) (d :: ds)
theorem CRs.vals {K : PySem.W.Frag} {us : List Value} {ds : List D} (h : CRs K us ds) : ∃ vs, Vals vs us ∧ ∀ μ H, Reps K μ H ds vs := by
  induction h with
  | nil => exact ⟨[], .nil, fun _ _ => Reps.nil⟩
  | cons h _ ih =>
    obtain ⟨v, r, q⟩ := h
    obtain ⟨vs, rs, qs⟩ := ih
    exact ⟨v :: vs, .cons r rs, fun μ H => Reps.cons (q μ H) (qs μ H)⟩
theorem cr_tup {K : PySem.W.Frag} {a : Addr} {o : Obj} {us : Array Value} {n : Nat} {ds : List D} (hk : K.lookup a = some o) (hc : o.cls = .type "tuple") (hd : o.data = .seq us n) (hz : us.size ≤ line) (h : CRs K us.toList ds) : CR K (.ref a) (.tup ds) := by
  obtain ⟨vs, r, q⟩ := h.vals
  exact ⟨.ref a, rfl, fun μ H => by
    simp only [Rep]
    exact ⟨a, vs, rfl, .inr ⟨o, us, n, hk, hc, hd, line_le hz, r⟩, q μ H⟩⟩
theorem pd_const {X : Cx} {W : WX} {x : Str} {d : D} {pos : Pos} (hg : Gl X x) (h : ∃ u, X.mg x = some u ∧ CR X.K u d) (hd : (x == ("__debug__" : Str)) = false := by decide) : PD X W (.Name x pos) (eC d) := by
  obtain ⟨u, hm, v, r, q⟩ := h
  exact pd_glob hg hm r q hd
end HA

/-! HA17: chains of two comparisons; + of anything; what the module has written of a def. -/
namespace HA
open PySem PySem.Spec PyProof.Rows L2
section
variable {X : Cx} {W : WX} {k : Nat} {e : Expr} {es : List Expr} {m : EM D} {ml : EM (List D)} {pos : Pos}
/-! ### a <= b <= c -/
def bChain (ma mb mc : EM D) (f g : D → D → AH → Res Bool) : EM Bool := fun env ah => (ma env ah).bind fun x a1 => (mb env a1).bind fun y a2 => (f x y a2).bind fun c a3 => if c = true then (mc env a3).bind fun z a4 => g y z a4 else .ok false a3
variable {op op' : CmpOp} {a b c : Expr} {ma mb mc : EM D} {f g : D → D → AH → Res Bool}
theorem chain_step {σ : L2.St} {H : Hp} {Q : VK} {μ : List Addr} {env : Env} {ah : AH} (he : EnvRel X.K μ H env σ) (hs : Sim X.K μ H ah) (hp : Post X.K RBV (fun c d H' => W c d σ H') μ H Q (bChain ma mb mc f g env ah)) :
    tChain (rO (R := RBV) X.K (fun c d H' => W c d σ H') f) (rO (R := RBV) X.K (fun c d H' => W c d σ H') g) (tG X.K (RD X.K) W ma) (tG X.K (RD X.K) W mb) (tG X.K (RD X.K) W mc) σ H Q := by
  unfold bChain at hp
  refine ⟨μ, env, ah, he, hs, hp.bind fun dx a1 μ1 x H1 e1 s1 r1 p1 => ?_⟩
  refine tG_next he e1 s1 (p1.bind fun dy a2 μ2 y H2 e2 s2 r2 p2 => ?_)
  refine ⟨μ2, a2, dx, dy, s2, Rep.ext r1 e2, r2, p2.bind fun t a3 μ3 z H3 e3 s3 r3 p3 => ?_⟩
  refine ⟨t, r3, ?_⟩
  have e123 := (e1.trans e2).trans e3
  cases t with
  | true =>
    rw [if_pos rfl] at p3 ⊢
    refine tG_next he e123 s3 (p3.bind fun dz a4 μ4 z' H4 e4 s4 r4 p4 => ?_)
    exact ⟨μ4, a4, dy, dz, s4, Rep.ext r2 (e3.trans e4), r4, p4⟩
  | false =>
    rw [if_neg Bool.false_ne_true] at p3 ⊢
    exact p3.ok1 s3 rfl
theorem pd_chain (ho : OpD X RBV (compareOp op) f) (ho' : OpD X RBV (compareOp op') g) (ha : PD X W a ma) (hb : PD X W b mb) (hc : PD X W c mc) (hm : lastMarks [op, op'] [b, c] = false := by with_unfolding_all rfl) :
    PD X W (.Compare a [op, op'] [b, c] pos) (eB (bChain ma mb mc f g)) := by
  refine PE.weak (t := fun σ H Q => tChain (rO (R := RBV) X.K (fun c d H' => W c d σ H') f) (rO (R := RBV) X.K (fun c d H' => W c d σ H') g) (tG X.K (RD X.K) W ma) (tG X.K (RD X.K) W mb) (tG X.K (RD X.K) W mc) σ H Q)
    ⟨fun pins s σ H Q I h => (pe_chain (ho _) (ho' _) ha hb hc hm).run pins s σ H Q I h⟩ fun σ H Q ⟨μ, env, ah, he, hs, hp⟩ => chain_step he hs (Post.bv hp)
theorem pb_chain (ho : OpD X RBV (compareOp op) f) (ho' : OpD X RBV (compareOp op') g) (ha : PD X W a ma) (hb : PD X W b mb) (hc : PD X W c mc) (hm : lastMarks [op, op'] [b, c] = false := by with_unfolding_all rfl) :
    PB X W (.Compare a [op, op'] [b, c] pos) (bChain ma mb mc f g) := by
  refine PT.weak (t := fun σ H Q => tTest (tChain (rO (R := RBV) X.K (fun c d H' => W c d σ H') f) (rO (R := RBV) X.K (fun c d H' => W c d σ H') g) (tG X.K (RD X.K) W ma) (tG X.K (RD X.K) W mb) (tG X.K (RD X.K) W mc)) σ H Q)
    ⟨fun pins s σ H Q I h => (pt_chain (ho _) (ho' _) ha hb hc hm).run pins s σ H Q I h⟩ fun σ H Q ⟨μ, env, ah, he, hs, hp⟩ => chain_step he hs (Post.bb hp)

/-! ### x + y: numbers, texts, tuples, lists that stand -/
def oAddA : D → D → AH → Res D
  | .ref n, .ref m, ah => match ah[n]?, ah[m]? with
    | some (.lst xs), some (.lst ys) => if xs.length + ys.length ≤ line then .ok (.ref ah.length) (ah ++ [.lst (xs ++ ys)]) else .stuck
    | _, _ => .stuck
  | x, y, ah => oAdd x y ah
theorem OpR.or {F : Value → Value → Sem Value} {r r' : R2} (h : OpR X F r) (h' : OpR X F r') : OpR X F (fun x y H Q => r x y H Q ∨ r' x y H Q) := fun pins s σ H x y v u Q I rx ry q => q.elim (h pins s σ H x y v u Q I rx ry) (h' pins s σ H x y v u Q I rx ry)
theorem od_addA : OpD X (RD X.K) (binaryOp .Add) oAddA := fun Wx => by
  refine OpR.imp (OpR.or (od_add Wx) op_cat) fun x y H Q ⟨μ, ah, dx, dy, S, rx, ry, hp⟩ => ?_
  have old : oAddA dx dy ah = oAdd dx dy ah → rO (R := RD X.K) X.K Wx oAdd x y H Q ∨ rCat x y H Q := fun e => .inl ⟨μ, ah, dx, dy, S, rx, ry, by rw [← e]; exact hp⟩
  cases dx with
  | ref n =>
    cases dy with
    | ref m =>
      unfold oAddA at hp
      simp only at hp
      split at hp
      · rename_i xs ys q1 q2
        split at hp
        · rename_i hl
          obtain ⟨a, ea, rfl⟩ := d_ref rx
          obtain ⟨b, eb, rfl⟩ := d_ref ry
          obtain ⟨a', e1, vs, ha, ra⟩ := S.at q1
          obtain ⟨b', e2, ws, hb, rb⟩ := S.at q2
          rw [ea] at e1; cases e1
          rw [eb] at e2; cases e2
          refine .inr ⟨a, b, vs, ws, rfl, rfl, ha, hb, line_le (by rw [← ra.length, ← rb.length]; exact hl), fun p np => ?_⟩
          have r := (ra.append rb).mono (List.prefix_append μ [p]) (TExt.new (o := .lst (vs ++ ws)) np)
          refine hp (μ ++ [p]) (.ref p) (upd H p (.lst (vs ++ ws))) (Ext.ours np S.mpos) (S.new np rfl ⟨vs ++ ws, upd_same, r⟩) ?_
          show Rep X.K (μ ++ [p]) (upd H p (.lst (vs ++ ws))) (.ref ah.length) (.ref p)
          simp only [Rep]
          exact ⟨p, by rw [← S.len]; simp, rfl⟩
        · exact hp.elim
      · exact hp.elim
    | _ => exact old rfl
  | _ => exact old rfl
end

/-! ### what stands at the module's top -/
structure TF (K : PySem.W.Frag) (mg : Str → Option Value) (x : Str) (st : Stmt) (ps : List Str) where
  a : Addr
  fd : FuncData
  F : Fun K x x st a fd
  g : mg x = some (.ref a)
  k : PySem.W.keepIn K (.ref a) = true
  b : Binds K fd ps []
theorem fnG_stuck {P : Program} {w : World} {K : PySem.W.Frag} {mg : Str → Option Value} {base : Heap} {k : Nat} {f : Addr} {fd : FuncData} {ps : List Str} : FnG P w K mg base k f fd ps (fun _ _ => .stuck) := ⟨fun _ _ _ _ _ _ _ _ _ _ _ _ _ _ _ _ _ _ _ h => h.elim⟩
/-- a def from what the head tells -/
def tf_mk {K : PySem.W.Frag} {h : Heap} {mg : Str → Option Value} (X : K.In h) (G : h.Ns mainGlobals mg) {x : Str} {st : Stmt} {ps : List Str} {f : Addr} {oc : Value} {od an : Option Addr} {osl : Array (Option Value)} {kV doc pm cdv ct : Value}
    (hb : ∀ (kV doc pm : Value) (an : Option Addr) (cdv ct : Value) (us : List Value), us.length = ps.length → bindArgs (PySem.W.fnOf x x (defArgs st) (defBody st) (defScope st) .none kV doc pm an cdv ct) ⟨us, []⟩ = pure (ps.zip us))
    (l : K.lookup f = some ⟨oc, od, .func (PySem.W.fnOf x x (defArgs st) (defBody st) (defScope st) .none kV doc pm an cdv ct), osl⟩) (n : PySem.W.nsIn K mainGlobals x = some (some (.ref f)))
    (c : PySem.W.codeIn K cdv x = true) (k : PySem.W.keepIn K (.ref f) = true) : TF K mg x st ps :=
  ⟨f, _, fun_mk l c k, PySem.W.mg_of X G n, k, (fun_mk l c k).binds hb⟩
/-! ### keywords: the values in the parameters' order -/
def pick (π : List Nat) {α : Type} (us ws : List α) : List α := π.filterMap fun i => (us ++ ws)[i]?
theorem pick_cons {α : Type} {us ws : List α} {i : Nat} {π : List Nat} (h : i < us.length + ws.length) : pick (i :: π) us ws = (us ++ ws)[i]'(by simpa using h) :: pick π us ws := by
  unfold pick
  rw [List.filterMap_cons, List.getElem?_eq_getElem (by simpa using h)]
theorem vals_get : ∀ {vs : List V} {us : List Value} {i : Nat} {v : V} {u : Value}, Vals vs us → vs[i]? = some v → us[i]? = some u → RelV v u
  | _, _, _, _, _, .nil, e, _ => by simp at e
  | _, _, 0, _, _, .cons r _, e1, e2 => by simp at e1 e2; subst e1; subst e2; exact r
  | _, _, i + 1, _, _, .cons _ t, e1, e2 => vals_get t (by simpa using e1) (by simpa using e2)
theorem kb_pick {K : PySem.W.Frag} {x qual : Str} {st : Stmt} {f : Addr} {fd : FuncData} {ps ks : List Str} {n : Nat} (π : List Nat) (F : Fun K x qual st f fd) (hl : π.length = ps.length) (hπ : ∀ i ∈ π, i < n + ks.length)
    (hb : ∀ (kV doc pm : Value) (an : Option Addr) (cdv ct : Value) (us ws : List Value), us.length = n → ws.length = ks.length → bindArgs (PySem.W.fnOf x qual (defArgs st) (defBody st) (defScope st) .none kV doc pm an cdv ct) ⟨us, ks.zip ws⟩ = pure (ps.zip (pick π us ws))) :
    KB K fd ps ks n (fun {_} us ws => pick π us ws) where
  to := fun s us ws _ h1 h2 => by
    obtain ⟨oc, od, kV, doc, pm, an, cdv, ct, osl, rfl, lk, hcd⟩ := F.ex
    exact .of_eq (hb kV doc pm an cdv ct us ws h1 h2)
  len := fun {α} us ws h1 h2 => by
    rw [← hl]
    clear hb hl
    induction π with
    | nil => rfl
    | cons i π ih => rw [pick_cons (by rw [h1, h2]; exact hπ i (by simp)), List.length_cons, List.length_cons, ih fun j hj => hπ j (List.mem_cons_of_mem _ hj)]
  rel := fun {vs us zs ws} h1 h2 r1 r2 => by
    clear hb hl
    induction π with
    | nil => exact .nil
    | cons i π ih =>
      have hi := hπ i (by simp)
      have l1 := r1.length
      have l2 := r2.length
      rw [pick_cons (by rw [h1, h2]; exact hi), pick_cons (by rw [← l1, ← l2, h1, h2]; exact hi)]
      exact .cons (vals_get (Vals.append r1 r2) (List.getElem?_eq_getElem _) (List.getElem?_eq_getElem _)) (ih fun j hj => hπ j (List.mem_cons_of_mem _ hj))
  rep := fun {K' μ H ds vs fs zs} h1 h2 r1 r2 => by
    clear hb hl
    induction π with
    | nil => exact Reps.nil
    | cons i π ih =>
      have hi := hπ i (by simp)
      have l1 := r1.length
      have l2 := r2.length
      rw [pick_cons (by rw [h1, h2]; exact hi), pick_cons (by rw [← l1, ← l2, h1, h2]; exact hi)]
      refine Reps.cons ?_ (ih fun j hj => hπ j (List.mem_cons_of_mem _ hj))
      obtain ⟨v, e, r⟩ := (r1.append r2).get (i := i) (List.getElem?_eq_getElem (by simp [h1, h2]; exact hi))
      rw [List.getElem?_eq_getElem (by simp [← l1, ← l2, h1, h2]; exact hi)] at e
      cases e
      exact r
/-! ### comprehensions with their slots given -/
section
variable {X : Cx} {W : WX} {elt tg iter : Expr} {ifs : List Expr} {scope : Scope} {own : List (Str × Nat)} {pos : Pos} {mi : EM Itm} {tm : TM} {ts vs : List Nat} {mt : EM Bool} {me : EM D}
theorem pl_lcv (hc : X.calm = true) (hN : X.N.Nodup) (hi : PF X W tg iter mi) (ok : BlkOk X.N X.env.scope scope own) (hv : own.map (·.2) = vs) (hts : ∀ j ∈ ts, j ∈ own.map (·.2))
    (hg : ∀ (s : Shared) (H : Hp) (C : Addr) (cl : List (Str × Addr)) (fp : List Addr), PT1 (X.blk s H scope (compEnvC scope cl C X.env) fp) tg ts tm) (ht : ∀ (s : Shared) (H : Hp) (C : Addr) (cl : List (Str × Addr)) (fp : List Addr), PTsD (X.blk s H scope (compEnvC scope cl C X.env) fp) W0 ifs mt)
    (he : ∀ (s : Shared) (H : Hp) (C : Addr) (cl : List (Str × Addr)) (fp : List Addr), PD (X.blk s H scope (compEnvC scope cl C X.env) fp) W0 elt me) (hs : ∀ x, foldedSetIterable iter X.env x = pure x := by intro _; rfl) :
    PL X W (.ListComp elt [⟨tg, iter, ifs, 0⟩] scope pos) (lLc mi tm mt me vs) := hv ▸ pl_lc hc hN hi ok hts hg ht he hs
theorem pz_setLcv {i : Nat} {y : Str} {py spos : Pos} (hc : X.calm = true) (hN : X.N.Nodup) (hy : X.N[i]? = some y) (hyl : X.env.scope.names.lookup y = some .local)
    (hsw : swapsWith (.ListComp elt [⟨tg, iter, ifs, 0⟩] scope pos) (some (.Name y py)) spos.line X.env = pure true) (hi : PF X W tg iter mi) (ok : BlkOk X.N X.env.scope scope own) (hv : own.map (·.2) = vs) (hts : ∀ j ∈ ts, j ∈ own.map (·.2))
    (hg : ∀ (s : Shared) (H : Hp) (C : Addr) (cl : List (Str × Addr)) (fp : List Addr), PT1 (X.blk s H scope (compEnvC scope cl C X.env) fp) tg ts tm) (ht : ∀ (s : Shared) (H : Hp) (C : Addr) (cl : List (Str × Addr)) (fp : List Addr), PTsD (X.blk s H scope (compEnvC scope cl C X.env) fp) W0 ifs mt)
    (he : ∀ (s : Shared) (H : Hp) (C : Addr) (cl : List (Str × Addr)) (fp : List Addr), PD (X.blk s H scope (compEnvC scope cl C X.env) fp) W0 elt me) (hs : ∀ x, foldedSetIterable iter X.env x = pure x := by intro _; rfl) :
    PZ X W (.Assign [.Name y py] (.ListComp elt [⟨tg, iter, ifs, 0⟩] scope pos) spos) (sAsg (eNew (lLc mi tm mt me vs)) (gSet i)) := hv ▸ pz_setLc hc hN hy hyl hsw hi ok hts hg ht he hs
end
end HA

/-! HA18: the mirrors' words by simp. -/
namespace HA
open PySem PySem.Spec PyProof.Rows L2
section
variable {α β γ δ : Type} (env : Env) (ah : AH)
@[simp] theorem eVar_zero (d : D) (r : Env) : eVar 0 (some d :: r) ah = .ok d ah := rfl
@[simp] theorem eVar_succ (i : Nat) (x : Option D) (r : Env) : eVar (i + 1) (x :: r) ah = eVar i r ah := by
  unfold eVar
  rw [List.getElem?_cons_succ]
@[simp] theorem eC_def (d : D) : eC d env ah = .ok d ah := rfl
@[simp] theorem e1_def (ma : EM α) (f : α → AH → Res γ) : e1 ma f env ah = (ma env ah).bind f := rfl
@[simp] theorem e2_def (ma : EM α) (mb : EM β) (f : α → β → AH → Res γ) : e2 ma mb f env ah = (ma env ah).bind fun x ah1 => (mb env ah1).bind fun y ah2 => f x y ah2 := rfl
@[simp] theorem e3_def (ma : EM α) (mb : EM β) (mc : EM γ) (f : α → β → γ → AH → Res δ) : e3 ma mb mc f env ah = (ma env ah).bind fun x ah1 => (mb env ah1).bind fun y ah2 => (mc env ah2).bind fun z ah3 => f x y z ah3 := rfl
@[simp] theorem eB_def (m : EM Bool) : eB m env ah = (m env ah).bind fun b ah => .ok (.bl b) ah := rfl
@[simp] theorem aNil_def : aNil env ah = .ok [] ah := rfl
@[simp] theorem aCons_def (m : EM D) (r : EM (List D)) : aCons m r env ah = (m env ah).bind fun x ah1 => (r env ah1).bind fun xs ah2 => .ok (x :: xs) ah2 := rfl
@[simp] theorem bAnd_def (a b : EM Bool) : bAnd a b env ah = (a env ah).bind fun x ah1 => if x = true then b env ah1 else .ok false ah1 := rfl
@[simp] theorem bOr_def (a b : EM Bool) : bOr a b env ah = (a env ah).bind fun x ah1 => if x = true then .ok true ah1 else b env ah1 := rfl
@[simp] theorem bNot_def (a : EM Bool) : bNot a env ah = (a env ah).bind fun x ah1 => .ok (!x) ah1 := rfl
@[simp] theorem eAnd_def (a b : EM D) : eAnd a b env ah = (a env ah).bind fun x ah1 => (truth x ah1).bind fun k ah2 => if k = true then b env ah2 else .ok x ah2 := rfl
@[simp] theorem eOr_def (a b : EM D) : eOr a b env ah = (a env ah).bind fun x ah1 => (truth x ah1).bind fun k ah2 => if k = true then .ok x ah2 else b env ah2 := rfl
@[simp] theorem eNot_def (a : EM D) : eNot a env ah = (a env ah).bind fun x ah1 => (truth x ah1).bind fun k ah2 => .ok (.bl (!k)) ah2 := rfl
@[simp] theorem eIf_def (c : EM Bool) (a b : EM α) : eIf c a b env ah = (c env ah).bind fun x ah1 => if x = true then a env ah1 else b env ah1 := rfl
@[simp] theorem eTup_def (m : EM (List D)) : eTup m env ah = (m env ah).bind fun ds ah => if ds.length ≤ line then .ok (.tup ds) ah else .stuck := rfl
@[simp] theorem lLst_def (m : EM (List D)) : lLst m env ah = (m env ah).bind fun ds ah => if ds.length ≤ line then .ok ds ah else .stuck := rfl
@[simp] theorem eNew_def (m : EM (List D)) : eNew m env ah = (m env ah).bind fun ds ah => .ok (.ref ah.length) (ah ++ [.lst ds]) := rfl
@[simp] theorem tNew_def (m : EM (List D)) : tNew m env ah = (m env ah).bind fun ds ah => .ok (.inl ds) ah := rfl
@[simp] theorem tOur_def (m : EM D) : tOur m env ah = (m env ah).bind fun d ah => match d with
  | .ref n => .ok (.inr n) ah
  | _ => .stuck := rfl
@[simp] theorem oPart_none : oPart none env ah = .ok none ah := rfl
@[simp] theorem oPart_some (m : EM D) : oPart (some m) env ah = (m env ah).bind fun d ah => match d with
  | .int i => .ok (some i) ah
  | _ => .stuck := rfl
@[simp] theorem bChain_def (ma mb mc : EM D) (f g : D → D → AH → Res Bool) : bChain ma mb mc f g env ah = (ma env ah).bind fun x a1 => (mb env a1).bind fun y a2 => (f x y a2).bind fun c a3 => if c = true then (mc env a3).bind fun z a4 => g y z a4 else .ok false a3 := rfl
@[simp] theorem bNil_def (neg : Bool) (m : EM (List D)) : bNil neg m env ah = (m env ah).bind (lNil neg) := rfl
@[simp] theorem eMt_def (mo : EM D) (ml : EM (List D)) (f : D → List D → AH → Res D) : eMt mo ml f env ah = (mo env ah).bind fun d ah1 => if isList d ah1 = true then (ml env ah1).bind fun ds ah2 => f d ds ah2 else .stuck := rfl
@[simp] theorem iNew_def (m : EM (List D)) : iNew m env ah = (m env ah).bind fun ds ah => .ok ⟨ds, []⟩ ah := rfl
@[simp] theorem bYes_def : bYes env ah = .ok true ah := rfl
@[simp] theorem lLc_def (mi : EM Itm) (tm : TM) (test : EM Bool) (elt : EM D) (vs : List Nat) : lLc mi tm test elt vs env ah = (mi env ah).bind fun t ah1 => lcLoop t tm test elt vs env t.items [] ah1 := rfl
@[simp] theorem eDnew_def : eDnew env ah = .ok (.ref ah.length) (ah ++ [.dK []]) := rfl
@[simp] theorem eDisp_def (l : List (EM D × EM D)) : eDisp l env ah = (dPairs l env ah).bind fun ps ah1 => match optAll (fun p => (dKey p.1).map fun kk => (kk, p.2)) ps with
  | some kvs => if kvs.length ≤ 15 then .ok (.ref ah1.length) (ah1 ++ [.dK (dispD kvs)]) else .stuck
  | none => .stuck := rfl
@[simp] theorem dPairs_nil : dPairs [] env ah = .ok [] ah := rfl
@[simp] theorem dPairs_cons (mk mv : EM D) (r : List (EM D × EM D)) : dPairs ((mk, mv) :: r) env ah = (mk env ah).bind fun x ah1 => (mv env ah1).bind fun y ah2 => (dPairs r env ah2).bind fun ps ah3 => .ok ((x, y) :: ps) ah3 := rfl
/-! statements -/
@[simp] theorem thenS_ok (a : α) (f : α → AH → SRes) : (Res.ok a ah).thenS env f = f a ah := rfl
@[simp] theorem thenS_stuck (f : α → AH → SRes) : (Res.stuck : Res α).thenS env f = .stuck := rfl
@[simp] theorem thenS_exn (c : Addr) (fs : Option (List (Str × D))) (f : α → AH → SRes) : (Res.exn c fs ah : Res α).thenS env f = .exn c fs env ah := rfl
def SRes.next (r : SRes) (b : SM) : SRes := match r with
  | .nx env1 ah1 => b env1 ah1
  | r => r
@[simp] theorem next_nx (b : SM) : (SRes.nx env ah).next b = b env ah := rfl
@[simp] theorem next_rt (d : D) (b : SM) : (SRes.rt d ah).next b = .rt d ah := rfl
@[simp] theorem next_bk (b : SM) : (SRes.bk env ah).next b = .bk env ah := rfl
@[simp] theorem next_ct (b : SM) : (SRes.ct env ah).next b = .ct env ah := rfl
@[simp] theorem next_exn (c : Addr) (fs : Option (List (Str × D))) (b : SM) : (SRes.exn c fs env ah).next b = .exn c fs env ah := rfl
@[simp] theorem next_stuck (b : SM) : SRes.stuck.next b = .stuck := rfl
@[simp] theorem next_if (c : Prop) [Decidable c] (x y : SRes) (b : SM) : (if c then x else y).next b = if c then x.next b else y.next b := by split <;> rfl
@[simp] theorem sSeq_def (a b : SM) : sSeq a b env ah = (a env ah).next b := by unfold sSeq SRes.next; rfl
@[simp] theorem sSkip_def : sSkip env ah = .nx env ah := rfl
@[simp] theorem sRet_def (m : EM D) : sRet m env ah = (m env ah).thenS env fun d ah1 => .rt d ah1 := rfl
@[simp] theorem sRetN_def : sRetN env ah = .rt .non ah := rfl
@[simp] theorem sExpr_def (m : EM D) : sExpr m env ah = (m env ah).thenS env fun _ ah1 => .nx env ah1 := rfl
@[simp] theorem sIf_def (c : EM Bool) (a b : SM) : sIf c a b env ah = (c env ah).thenS env fun x ah1 => if x = true then a env ah1 else b env ah1 := rfl
@[simp] theorem sAsg_def (m : EM D) (t : TM) : sAsg m t env ah = (m env ah).thenS env fun d ah1 => match t d env ah1 with
  | some env1 => .nx env1 ah1
  | none => .stuck := rfl
@[simp] theorem sAsg_set (m : EM D) (i : Nat) : sAsg m (gSet i) env ah = (m env ah).thenS env fun d ah1 => .nx (env.set i (some d)) ah1 := rfl
@[simp] theorem gSet_def (i : Nat) (d : D) : gSet i d env ah = some (env.set i (some d)) := rfl
@[simp] theorem gTup_def (n : Nat) (u : List D → Env → AH → Option Env) (ds : List D) : gTupD n u (.tup ds) env ah = if ds.length = n then u ds env ah else none := rfl
@[simp] theorem gNil_def : gNilD [] env ah = some env := rfl
@[simp] theorem gCons_def (t : TM) (u : List D → Env → AH → Option Env) (d : D) (r : List D) : gConsD t u (d :: r) env ah = (t d env ah).bind fun env1 => u r env1 ah := rfl
@[simp] theorem sPut_def (mo mi mv : EM D) : sPut mo mi mv env ah = (mv env ah).thenS env fun v ah1 => (mo env ah1).thenS env fun d ah2 => (mi env ah2).thenS env fun kd ah3 => match d, dKey kd with
  | .ref n, some kk => match ah3[n]? with
    | some (.dK kvs) => if kvs.length < line then .nx env (ah3.set n (.dK (putD kvs kk v))) else .stuck
    | _ => .stuck
  | _, _ => .stuck := by
  unfold sPut
  rfl
@[simp] theorem sFor_def (mi : EM Itm) (tm : TM) (body : SM) : sFor mi tm body env ah = (mi env ah).thenS env fun t ah1 => forLoop t tm body t.items env ah1 := rfl
@[simp] theorem sPar2_def (i j : Nat) (ml : EM (List D)) : sPar2 i j ml env ah = (ml env ah).thenS env fun ds ah1 => match ds with
  | [x, y] => .nx ((env.set i (some x)).set j (some y)) ah1
  | _ => .stuck := rfl
@[simp] theorem bind_if (c : Prop) [Decidable c] (x y : Res α) (f : α → AH → Res β) : (if c then x else y).bind f = if c then x.bind f else y.bind f := by split <;> rfl
@[simp] theorem thenS_if (c : Prop) [Decidable c] (x y : Res α) (f : α → AH → SRes) : (if c then x else y).thenS env f = if c then x.thenS env f else y.thenS env f := by split <;> rfl
/-- what a body's end is to the caller -/
def SRes.fin (r : SRes) (ah : AH) : Res D := match r with
  | .nx _ ah' => HA.fin ah .non ah'
  | .rt d ah' => HA.fin ah d ah'
  | .exn c fs _ ah' => .exn c fs (finX ah fs ah')
  | _ => .stuck
@[simp] theorem sfin_nx (ah' : AH) : (SRes.nx env ah').fin ah = HA.fin ah .non ah' := rfl
@[simp] theorem sfin_rt (d : D) (ah' : AH) : (SRes.rt d ah').fin ah = HA.fin ah d ah' := rfl
@[simp] theorem sfin_exn (c : Addr) (fs : Option (List (Str × D))) (ah' : AH) : (SRes.exn c fs env ah').fin ah = .exn c fs (finX ah fs ah') := rfl
@[simp] theorem sfin_if (c : Prop) [Decidable c] (x y : SRes) : (if c then x else y).fin ah = if c then x.fin ah else y.fin ah := by split <;> rfl
/-- .. with all that it has made -/
def SRes.out (r : SRes) : Res D := match r with
  | .nx _ ah' => .ok .non ah'
  | .rt d ah' => .ok d ah'
  | .exn c fs _ ah' => .exn c fs ah'
  | _ => .stuck
@[simp] theorem out_nx (ah' : AH) : (SRes.nx env ah').out = .ok .non ah' := rfl
@[simp] theorem out_rt (d : D) (ah' : AH) : (SRes.rt d ah').out = .ok d ah' := rfl
@[simp] theorem out_exn (c : Addr) (fs : Option (List (Str × D))) (ah' : AH) : (SRes.exn c fs env ah').out = .exn c fs ah' := rfl
@[simp] theorem out_if (c : Prop) [Decidable c] (x y : SRes) : (if c then x else y).out = if c then x.out else y.out := by split <;> rfl
theorem fnR_1 (n : Nat) (mb : SM) (a : D) : fnR n 1 mb [a] ah = (mb (some a :: List.replicate (n - 1) none) ah).out := by unfold fnR SRes.out; rfl
theorem fnR_0 (n : Nat) (mb : SM) : fnR n 0 mb [] ah = (mb (List.replicate n none) ah).out := by unfold fnR SRes.out; rfl
theorem fnR_2 (n : Nat) (mb : SM) (a b : D) : fnR n 2 mb [a, b] ah = (mb (some a :: some b :: List.replicate (n - 2) none) ah).out := by unfold fnR SRes.out; rfl
theorem fnR_3 (n : Nat) (mb : SM) (a b c : D) : fnR n 3 mb [a, b, c] ah = (mb (some a :: some b :: some c :: List.replicate (n - 3) none) ah).out := by unfold fnR SRes.out; rfl
theorem fnR_4 (n : Nat) (mb : SM) (a b c d : D) : fnR n 4 mb [a, b, c, d] ah = (mb (some a :: some b :: some c :: some d :: List.replicate (n - 4) none) ah).out := by unfold fnR SRes.out; rfl
theorem fnM_1 (n : Nat) (mb : SM) (a : D) : fnM n 1 mb [a] ah = (mb (some a :: List.replicate (n - 1) none) ah).fin ah := by unfold fnM SRes.fin; rfl
theorem fnM_0 (n : Nat) (mb : SM) : fnM n 0 mb [] ah = (mb (List.replicate n none) ah).fin ah := by unfold fnM SRes.fin; rfl
theorem fnM_2 (n : Nat) (mb : SM) (a b : D) : fnM n 2 mb [a, b] ah = (mb (some a :: some b :: List.replicate (n - 2) none) ah).fin ah := by unfold fnM SRes.fin; rfl
theorem fnM_3 (n : Nat) (mb : SM) (a b c : D) : fnM n 3 mb [a, b, c] ah = (mb (some a :: some b :: some c :: List.replicate (n - 3) none) ah).fin ah := by unfold fnM SRes.fin; rfl
theorem fnM_4 (n : Nat) (mb : SM) (a b c d : D) : fnM n 4 mb [a, b, c, d] ah = (mb (some a :: some b :: some c :: some d :: List.replicate (n - 4) none) ah).fin ah := by unfold fnM SRes.fin; rfl
theorem fnM_5 (n : Nat) (mb : SM) (a b c d e : D) : fnM n 5 mb [a, b, c, d, e] ah = (mb (some a :: some b :: some c :: some d :: some e :: List.replicate (n - 5) none) ah).fin ah := by unfold fnM SRes.fin; rfl
end
@[simp] theorem fin_same' (ah : AH) (d : D) : fin ah d ah = .ok d ah := fin_same ah d
/-! scalars -/
@[simp] theorem oAdd_int (i j : Int) (ah : AH) : oAdd (.int i) (.int j) ah = .ok (.int (i + j)) ah := rfl
@[simp] theorem oAddA_int (i j : Int) (ah : AH) : oAddA (.int i) (.int j) ah = .ok (.int (i + j)) ah := rfl
@[simp] theorem oSub_int (i j : Int) (ah : AH) : oSub (.int i) (.int j) ah = .ok (.int (i - j)) ah := rfl
@[simp] theorem oNeg_int (i : Int) (ah : AH) : oNeg (.int i) ah = .ok (.int (-i)) ah := rfl
theorem log2_lt {i : Int} {n : Nat} (hn : 0 < n) (h : i.natAbs < 2 ^ n) : i.natAbs.log2 < n := by
  by_cases z : i.natAbs = 0
  · rw [z]; simpa using hn
  · exact (Nat.log2_lt z).mpr h
theorem mulOk_of {i j : Int} (h1 : i.natAbs < 2 ^ 1000) (h2 : j.natAbs < 2 ^ 1000) : mulOk i j = true := by
  unfold mulOk
  have a := log2_lt (by decide) h1
  have b := log2_lt (by decide) h2
  rw [decide_eq_true_eq]
  omega
theorem oMul_int {i j : Int} (ah : AH) (h1 : i.natAbs < 2 ^ 1000) (h2 : j.natAbs < 2 ^ 1000) : oMul (.int i) (.int j) ah = .ok (.int (i * j)) ah := by
  unfold oMul
  simp only
  rw [if_pos (mulOk_of h1 h2)]
theorem oFdiv_int {i j : Int} (ah : AH) (h1 : 0 < j) (h2 : j < 2 ^ 1000) : oFdiv (.int i) (.int j) ah = .ok (.int (i / j)) ah := by
  unfold oFdiv
  simp only
  have := log2_lt (i := j) (n := 1000) (by decide) (by omega)
  rw [if_pos ⟨h1, by omega⟩]
theorem oMod_int {i j : Int} (ah : AH) (h1 : 0 < j) : oMod (.int i) (.int j) ah = .ok (.int (i % j)) ah := by
  unfold oMod
  simp only
  rw [if_pos h1]
theorem oPow_int {i j : Int} (ah : AH) (h1 : 0 ≤ j ∧ j ≤ 1000000 ∧ i.natAbs < 2 ^ 64) : oPow (.int i) (.int j) ah = .ok (.int (i ^ j.toNat)) ah := by
  unfold oPow
  simp only
  rw [if_pos h1]
@[simp] theorem cEq_int (i j : Int) (ah : AH) : cEq (.int i) (.int j) ah = .ok (decide (i = j)) ah := rfl
@[simp] theorem cEq_str (i j : Str) (ah : AH) : cEq (.str i) (.str j) ah = .ok (decide (i = j)) ah := rfl
@[simp] theorem cEq_bl (i j : Bool) (ah : AH) : cEq (.bl i) (.bl j) ah = .ok (decide (i = j)) ah := rfl
@[simp] theorem cNe_int (i j : Int) (ah : AH) : cNe (.int i) (.int j) ah = .ok (!decide (i = j)) ah := rfl
@[simp] theorem cNe_str (i j : Str) (ah : AH) : cNe (.str i) (.str j) ah = .ok (!decide (i = j)) ah := rfl
@[simp] theorem cNe_bl (i j : Bool) (ah : AH) : cNe (.bl i) (.bl j) ah = .ok (!decide (i = j)) ah := rfl
@[simp] theorem cLt_int (i j : Int) (ah : AH) : cLt (.int i) (.int j) ah = .ok (decide (i < j)) ah := rfl
@[simp] theorem cLe_int (i j : Int) (ah : AH) : cLe (.int i) (.int j) ah = .ok (decide (i ≤ j)) ah := rfl
@[simp] theorem cGt_int (i j : Int) (ah : AH) : cGt (.int i) (.int j) ah = .ok (decide (j < i)) ah := rfl
@[simp] theorem cGe_int (i j : Int) (ah : AH) : cGe (.int i) (.int j) ah = .ok (decide (j ≤ i)) ah := rfl
@[simp] theorem truth_bl (b : Bool) (ah : AH) : truth (.bl b) ah = .ok b ah := rfl
@[simp] theorem truth_non (ah : AH) : truth .non ah = .ok false ah := rfl
@[simp] theorem truth_int (i : Int) (ah : AH) : truth (.int i) ah = .ok (i != 0) ah := rfl
@[simp] theorem oLen_tup (ds : List D) (ah : AH) : oLenA [.tup ds] ah = .ok (.int ds.length) ah := rfl
@[simp] theorem oIsi_def (d : D) (T : String) (ah : AH) : oIsi [d, .cst (.ty T)] ah = match tyName d ah with
  | some a => if T ∈ tyTable then .ok (.bl (tyIs a T)) ah else .stuck
  | none => .stuck := rfl
theorem ixD_nat {α : Type} {xs : List α} {i : Nat} {x : α} (h : xs[i]? = some x) : ixD xs (i : Int) = some x := by
  have hi : i < xs.length := (List.getElem?_eq_some_iff.mp h).1
  unfold ixD ixN
  have e : xs[i] = x := by rw [List.getElem?_eq_getElem hi] at h; exact Option.some.inj h
  simp [hi, e]
theorem oIx_tup {ds : List D} {i : Nat} {d : D} (ah : AH) (h : ds[i]? = some d) : oIx (.tup ds) (.int i) ah = .ok d ah := by simp only [oIx, ixD_nat h]
theorem oIx_lst {ds : List D} {i n : Nat} {d : D} {ah : AH} (hn : ah[n]? = some (.lst ds)) (h : ds[i]? = some d) : oIx (.ref n) (.int i) ah = .ok d ah := by simp only [oIx, hn, ixD_nat h]
theorem lIx_nat {ds : List D} {i : Nat} {d : D} (ah : AH) (h : ds[i]? = some d) : lIx ds (.int i) ah = .ok d ah := by simp only [lIx, ixD_nat h]
@[simp] theorem okIn_nil (ds : List D) (ah : AH) : (⟨ds, []⟩ : Itm).okIn ah = true := rfl
@[simp] theorem forLoop_nil (t : Itm) (tm : TM) (body : SM) (env : Env) (ah : AH) : forLoop t tm body [] env ah = if t.okIn ah = true then .nx env ah else .stuck := rfl
/-- a turn's end: go on, or out -/
def SRes.turn (r : SRes) (k : SM) : SRes := match r with
  | .nx env ah => k env ah
  | .ct env ah => k env ah
  | .bk env ah => .nx env ah
  | r => r
@[simp] theorem turn_nx (env : Env) (ah : AH) (k : SM) : (SRes.nx env ah).turn k = k env ah := rfl
@[simp] theorem turn_ct (env : Env) (ah : AH) (k : SM) : (SRes.ct env ah).turn k = k env ah := rfl
@[simp] theorem turn_bk (env : Env) (ah : AH) (k : SM) : (SRes.bk env ah).turn k = .nx env ah := rfl
@[simp] theorem turn_rt (d : D) (ah : AH) (k : SM) : (SRes.rt d ah).turn k = .rt d ah := rfl
@[simp] theorem turn_exn (c : Addr) (fs : Option (List (Str × D))) (env : Env) (ah : AH) (k : SM) : (SRes.exn c fs env ah).turn k = .exn c fs env ah := rfl
@[simp] theorem turn_stuck (k : SM) : SRes.stuck.turn k = .stuck := rfl
@[simp] theorem turn_if (c : Prop) [Decidable c] (x y : SRes) (k : SM) : (if c then x else y).turn k = if c then x.turn k else y.turn k := by split <;> rfl
@[simp] theorem forLoop_cons (t : Itm) (tm : TM) (body : SM) (d : D) (ds : List D) (env : Env) (ah : AH) : forLoop t tm body (d :: ds) env ah = if t.okIn ah = true then match tm d env ah with
    | some env1 => (body env1 ah).turn (forLoop t tm body ds)
    | none => .stuck else .stuck := by
  show (if t.okIn ah = true then _ else _) = _
  split
  · cases tm d env ah with
    | none => rfl
    | some env1 => simp only; cases body env1 ah <;> rfl
  · rfl
@[simp] theorem iVal_tup (ds : List D) (ah : AH) : iVal (.tup ds) ah = .ok ⟨ds, []⟩ ah := rfl
@[simp] theorem get_app0 {α : Type} (l r : List α) (a : α) : (l ++ a :: r)[l.length]? = some a := by simp
end HA

/-! HA19: data that can be shown; heaps that grow. -/
namespace HA
open PySem PySem.Spec PyProof.Rows L2
mutual
/-- numbers up to B in size, signs that exist -/
def tame (B : Nat) : PyData → Bool
  | .none | .bool _ => true
  | .int i => decide (i.natAbs ≤ B)
  | .str x => x.cps.toList.all fun c => decide (c < 16 ^ 8)
  | .list xs | .tuple xs => tames B xs
  | .dict kvs => tameKv B kvs
def tames (B : Nat) : List PyData → Bool
  | [] => true
  | x :: xs => tame B x && tames B xs
def tameKv (B : Nat) : List (PyData × PyData) → Bool
  | [] => true
  | (k, v) :: r => tame B k && tame B v && tameKv B r
end
mutual
theorem tame_leaf {B : Nat} (hB : B < 2 ^ 290) : ∀ p : PyData, tame B p = true → p.leavesShort 300 = true ∧ p.showable = true
  | .none, _ => ⟨rfl, rfl⟩
  | .bool _, _ => ⟨rfl, rfl⟩
  | .int i, h => by
    have h' : i.natAbs ≤ B := by simpa only [tame, decide_eq_true_eq] using h
    have l : i.natAbs.log2 < 290 := log2_lt (by decide) (Nat.lt_of_le_of_lt h' hB)
    simp only [PyData.leavesShort, PyData.showable, decide_eq_true_eq, PyData.shown]
    refine ⟨decide_eq_true ?_, by omega⟩
    rw [PySem.ofString_length]
    exact Nat.le_trans (int_text_length_le (k := 290) (by decide) l) (show 290 + 1 ≤ 300 by decide)
  | .str x, h => by
    simp only [PyData.leavesShort, PyData.showable]
    exact ⟨by simpa only [tame] using h, trivial⟩
  | .list xs, h => by
    simp only [PyData.leavesShort, PyData.showable]
    exact tames_leaf hB xs (by simpa only [tame] using h)
  | .tuple xs, h => by
    simp only [PyData.leavesShort, PyData.showable]
    exact tames_leaf hB xs (by simpa only [tame] using h)
  | .dict kvs, h => by
    simp only [PyData.leavesShort, PyData.showable]
    exact tameKv_leaf hB kvs (by simpa only [tame] using h)
theorem tames_leaf {B : Nat} (hB : B < 2 ^ 290) : ∀ ps : List PyData, tames B ps = true → PyData.leavesShortAll 300 ps = true ∧ PyData.showableAll ps = true
  | [], _ => ⟨rfl, rfl⟩
  | x :: xs, h => by
    simp only [tames, Bool.and_eq_true] at h
    have a := tame_leaf hB x h.1
    have b := tames_leaf hB xs h.2
    simp only [PyData.leavesShortAll, PyData.showableAll, Bool.and_eq_true]
    exact ⟨⟨a.1, b.1⟩, a.2, b.2⟩
theorem tameKv_leaf {B : Nat} (hB : B < 2 ^ 290) : ∀ ps : List (PyData × PyData), tameKv B ps = true → PyData.leavesShortKv 300 ps = true ∧ PyData.showableKv ps = true
  | [], _ => ⟨rfl, rfl⟩
  | (k, v) :: r, h => by
    simp only [tameKv, Bool.and_eq_true] at h
    have a := tame_leaf hB k h.1.1
    have b := tame_leaf hB v h.1.2
    have c := tameKv_leaf hB r h.2
    simp only [PyData.leavesShortKv, PyData.showableKv, Bool.and_eq_true]
    exact ⟨⟨⟨a.1, b.1⟩, c.1⟩, ⟨a.2, b.2⟩, c.2⟩
end
mutual
theorem tame_mono {B C : Nat} (h : B ≤ C) : ∀ p : PyData, tame B p = true → tame C p = true
  | .none, _ => rfl
  | .bool _, _ => rfl
  | .int i, e => by simp only [tame, decide_eq_true_eq] at e ⊢; omega
  | .str x, e => by simpa only [tame] using e
  | .list xs, e => by simp only [tame] at e ⊢; exact tames_mono h xs e
  | .tuple xs, e => by simp only [tame] at e ⊢; exact tames_mono h xs e
  | .dict kvs, e => by simp only [tame] at e ⊢; exact tameKv_mono h kvs e
theorem tames_mono {B C : Nat} (h : B ≤ C) : ∀ ps : List PyData, tames B ps = true → tames C ps = true
  | [], _ => rfl
  | x :: xs, e => by simp only [tames, Bool.and_eq_true] at e ⊢; exact ⟨tame_mono h x e.1, tames_mono h xs e.2⟩
theorem tameKv_mono {B C : Nat} (h : B ≤ C) : ∀ ps : List (PyData × PyData), tameKv B ps = true → tameKv C ps = true
  | [], _ => rfl
  | (k, v) :: r, e => by simp only [tameKv, Bool.and_eq_true] at e ⊢; exact ⟨⟨tame_mono h k e.1.1, tame_mono h v e.1.2⟩, tameKv_mono h r e.2⟩
end
theorem tame_len {B : Nat} (hB : B < 2 ^ 290) {p : PyData} (h : tame B p = true) (hw : p.weight ≤ 50000) : p.shown.length ≤ line := by
  have := PyData.shown_le 300 (by decide) p (tame_leaf hB p h).1
  have : (300 + 2) * p.weight ≤ 302 * 50000 := Nat.mul_le_mul (by decide) hw
  unfold line
  omega
theorem tames_app {B : Nat} : ∀ (xs ys : List PyData), tames B (xs ++ ys) = (tames B xs && tames B ys)
  | [], ys => rfl
  | x :: xs, ys => by simp only [List.cons_append, tames, tames_app xs ys, Bool.and_assoc]
theorem tames_iff {B : Nat} : ∀ {xs : List PyData}, tames B xs = true ↔ ∀ x ∈ xs, tame B x = true
  | [] => by simp [tames]
  | x :: xs => by simp [tames, tames_iff (xs := xs)]
theorem weightAll_app : ∀ (xs ys : List PyData), PyData.weightAll (xs ++ ys) = PyData.weightAll xs + PyData.weightAll ys
  | [], ys => by simp [PyData.weightAll]
  | x :: xs, ys => by simp only [List.cons_append, PyData.weightAll, weightAll_app xs ys]; omega
/-! ### optAll -/
theorem optAll_app {α β : Type} {f : α → Option β} : ∀ {xs ys : List α} {ps qs : List β}, optAll f xs = some ps → optAll f ys = some qs → optAll f (xs ++ ys) = some (ps ++ qs)
  | [], ys, ps, qs, h1, h2 => by cases h1; exact h2
  | x :: xs, ys, ps, qs, h1, h2 => by
    obtain ⟨b, cs, rfl, e1, e2⟩ := optAll_cons h1
    simp only [List.cons_append, optAll, e1, optAll_app e2 h2]
theorem optAll_take {α β : Type} {f : α → Option β} : ∀ {xs : List α} {ps : List β} (n : Nat), optAll f xs = some ps → optAll f (xs.take n) = some (ps.take n)
  | [], ps, n, h => by cases h; simp [optAll]
  | x :: xs, ps, 0, h => by simp [optAll]
  | x :: xs, ps, n + 1, h => by
    obtain ⟨b, cs, rfl, e1, e2⟩ := optAll_cons h
    simp only [List.take_succ_cons, optAll, e1, optAll_take n e2]
theorem optAll_drop {α β : Type} {f : α → Option β} : ∀ {xs : List α} {ps : List β} (n : Nat), optAll f xs = some ps → optAll f (xs.drop n) = some (ps.drop n)
  | [], ps, n, h => by cases h; simp [optAll]
  | x :: xs, ps, 0, h => h
  | x :: xs, ps, n + 1, h => by
    obtain ⟨b, cs, rfl, e1, e2⟩ := optAll_cons h
    simpa only [List.drop_succ_cons] using optAll_drop n e2
theorem optAll_rev {α β : Type} {f : α → Option β} : ∀ {xs : List α} {ps : List β}, optAll f xs = some ps → optAll f xs.reverse = some ps.reverse
  | [], ps, h => by cases h; rfl
  | x :: xs, ps, h => by
    obtain ⟨b, cs, rfl, e1, e2⟩ := optAll_cons h
    simp only [List.reverse_cons]
    exact optAll_app (optAll_rev e2) (by simp [optAll, e1])
theorem optAll_mono {α β : Type} {f g : α → Option β} (h : ∀ a b, f a = some b → g a = some b) : ∀ {xs : List α} {ps : List β}, optAll f xs = some ps → optAll g xs = some ps
  | [], ps, h' => by cases h'; rfl
  | x :: xs, ps, h' => by
    obtain ⟨b, cs, rfl, e1, e2⟩ := optAll_cons h'
    simp only [optAll, h _ _ e1, optAll_mono h e2]
theorem optAll_at {α β : Type} {f : α → Option β} : ∀ {xs : List α} {ps : List β} {i : Nat} {x : α}, optAll f xs = some ps → xs[i]? = some x → ∃ p, f x = some p ∧ ps[i]? = some p
  | [], ps, i, x, h, e => by simp at e
  | y :: xs, ps, i, x, h, e => by
    obtain ⟨b, cs, rfl, e1, e2⟩ := optAll_cons h
    cases i with
    | zero => simp at e; subst e; exact ⟨b, e1, rfl⟩
    | succ i => simpa using optAll_at e2 (by simpa using e)
/-! ### the same datum in a greater heap, looked at more deeply -/
def Vis (o : AObj) : Bool := match o with
  | .lst _ | .ro _ | .dK _ => true
  | _ => false
def Le (ah ah' : AH) : Prop := ∀ (i : Nat) (o : AObj), ah[i]? = some o → Vis o = true → ah'[i]? = some o
theorem Le.refl (ah : AH) : Le ah ah := fun _ _ h _ => h
theorem Le.trans {a b c : AH} (h1 : Le a b) (h2 : Le b c) : Le a c := fun i o e v => h2 i o (h1 i o e v) v
theorem Le.app (ah x : AH) : Le ah (ah ++ x) := fun i o e _ => by
  rw [List.getElem?_append_left (List.getElem?_eq_some_iff.mp e).1]; exact e
theorem toP_heap {ah ah' : AH} (h : Le ah ah') : ∀ (f g : Nat) (d : D) (p : PyData), f ≤ g → toP ah f d = some p → toP ah' g d = some p
  | 0, _, _, _, _, e => by cases e
  | f + 1, 0, _, _, l, _ => by omega
  | f + 1, g + 1, d, p, l, e => by
    have ih : ∀ {ds : List D} {ps : List PyData}, optAll (toP ah f) ds = some ps → optAll (toP ah' g) ds = some ps := fun q => optAll_mono (fun a b => toP_heap h f g a b (by omega)) q
    cases d with
    | non => exact e
    | bl b => exact e
    | int i => exact e
    | str x => exact e
    | cst v => cases e
    | tup ds =>
      simp only [toP, Option.map_eq_some_iff] at e ⊢
      obtain ⟨ps, q, r⟩ := e
      exact ⟨ps, ih q, r⟩
    | ref n =>
      simp only [toP] at e ⊢
      cases q : ah[n]? with
      | none => rw [q] at e; cases e
      | some o =>
        rw [q] at e
        cases o with
        | lst ds =>
          rw [h n _ q rfl]
          simp only [Option.map_eq_some_iff] at e ⊢
          obtain ⟨ps, q, r⟩ := e
          exact ⟨ps, ih q, r⟩
        | ro ds =>
          rw [h n _ q rfl]
          simp only [Option.map_eq_some_iff] at e ⊢
          obtain ⟨ps, q, r⟩ := e
          exact ⟨ps, ih q, r⟩
        | dK kvs =>
          rw [h n _ q rfl]
          simp only [Option.map_eq_some_iff] at e ⊢
          obtain ⟨ps, q, r⟩ := e
          exact ⟨ps, ih q, r⟩
        | dT kvs => cases e
        | ins C fs => cases e
theorem depthAll_le {n : Nat} : ∀ {ps : List PyData}, (∀ p ∈ ps, p.depth ≤ n) → PyData.depthAll ps ≤ n
  | [], _ => Nat.zero_le _
  | p :: ps, h => by
    simp only [PyData.depthAll]
    exact Nat.max_le.mpr ⟨h p (by simp), depthAll_le fun q hq => h q (List.mem_cons_of_mem _ hq)⟩
theorem depthKv_le {n : Nat} : ∀ {ps : List (PyData × PyData)}, (∀ p ∈ ps, p.1.depth ≤ n ∧ p.2.depth ≤ n) → PyData.depthKv ps ≤ n
  | [], _ => Nat.zero_le _
  | (a, b) :: ps, h => by
    simp only [PyData.depthKv]
    exact Nat.max_le.mpr ⟨Nat.max_le.mpr (h (a, b) (by simp)), depthKv_le fun q hq => h q (List.mem_cons_of_mem _ hq)⟩
theorem optAll_mem {α β : Type} {f : α → Option β} : ∀ {xs : List α} {ps : List β}, optAll f xs = some ps → ∀ p ∈ ps, ∃ x ∈ xs, f x = some p
  | [], ps, h, p, hp => by cases h; cases hp
  | x :: xs, ps, h, p, hp => by
    obtain ⟨b, cs, rfl, e1, e2⟩ := optAll_cons h
    rcases List.mem_cons.mp hp with rfl | z
    · exact ⟨x, by simp, e1⟩
    · obtain ⟨y, hy, q⟩ := optAll_mem e2 p z
      exact ⟨y, List.mem_cons_of_mem _ hy, q⟩
theorem toP_depth {ah : AH} : ∀ (f : Nat) (d : D) (p : PyData), toP ah f d = some p → p.depth ≤ f
  | 0, _, _, e => by cases e
  | f + 1, d, p, e => by
    have ih : ∀ {ds : List D} {ps : List PyData}, optAll (toP ah f) ds = some ps → ∀ p ∈ ps, p.depth ≤ f := fun {ds ps} q p hp => by
      obtain ⟨x, _, e⟩ := optAll_mem q p hp
      exact toP_depth f x p e
    cases d with
    | non => cases e; simp [PyData.depth]
    | bl b => cases e; simp [PyData.depth]
    | int i => cases e; simp [PyData.depth]
    | str x => cases e; simp [PyData.depth]
    | cst v => cases e
    | tup ds =>
      simp only [toP, Option.map_eq_some_iff] at e
      obtain ⟨ps, q, rfl⟩ := e
      simp only [PyData.depth]
      exact Nat.succ_le_succ (depthAll_le (ih q))
    | ref n =>
      simp only [toP] at e
      split at e
      · simp only [Option.map_eq_some_iff] at e
        obtain ⟨ps, q, rfl⟩ := e
        simp only [PyData.depth]
        exact Nat.succ_le_succ (depthAll_le (ih q))
      · simp only [Option.map_eq_some_iff] at e
        obtain ⟨ps, q, rfl⟩ := e
        simp only [PyData.depth]
        exact Nat.succ_le_succ (depthAll_le (ih q))
      · simp only [Option.map_eq_some_iff] at e
        obtain ⟨ps, q, rfl⟩ := e
        simp only [PyData.depth]
        refine Nat.succ_le_succ (depthKv_le fun z hz => ?_)
        obtain ⟨h1, h2⟩ := List.of_mem_zip hz
        refine ⟨?_, ih q _ h2⟩
        obtain ⟨kv, _, hk⟩ := List.mem_map.mp h1
        rw [← hk]
        cases kv.1 <;> simp [keyP, PyData.depth]
      · cases e
/-- a datum that repr shows: n deep, w heavy, numbers up to B -/
def Dat (B : Nat) (ah : AH) (n w : Nat) (d : D) : Prop := ∃ p, toP ah n d = some p ∧ tame B p = true ∧ p.weight ≤ w
theorem Dat.mono {B C : Nat} {ah ah' : AH} {n n' w w' : Nat} {d : D} (h : Dat B ah n w d) (l : Le ah ah') (hB : B ≤ C) (hn : n ≤ n') (hw : w ≤ w') : Dat C ah' n' w' d := by
  obtain ⟨p, e, t, k⟩ := h
  exact ⟨p, toP_heap l n n' d p hn e, tame_mono hB p t, by omega⟩
theorem Dat.repr {B : Nat} {ah : AH} {n w : Nat} {d : D} (h : Dat B ah n w d) (hB : B < 2 ^ 290) (hn : n ≤ 63) (hw : w ≤ 50000) : ∃ s : Str, ∀ ah', Le ah ah' → oRepr [d] ah' = .ok (.str s) ah' := by
  obtain ⟨p, e, t, k⟩ := h
  refine ⟨p.shown, fun ah' l => ?_⟩
  have q : pd ah' d = some p := toP_heap l n 63 d p hn e
  have q0 := toP_depth n d p e
  unfold oRepr
  simp only [q]
  rw [if_pos ⟨(tame_leaf hB p t).2, tame_len hB t (by omega), by omega⟩]
end HA
namespace HA
open PySem PySem.Spec PyProof.Rows L2
theorem eqv_tup_nil (ps : List PyData) : PyData.eqv (.tuple ps) (.tuple []) = ps.isEmpty := by
  cases ps <;> simp [PyData.eqv, PyData.eqvAll]
theorem cEq_tupNil (ds : List D) (ah : AH) : cEq (.tup ds) (.tup []) ah = .ok ds.isEmpty ah := by
  unfold cEq
  simp only
  split
  · rename_i b e
    unfold eqData at e
    split at e
    · rename_i p q e1 e2
      split at e
      · cases e
        have q0 : q = .tuple [] := by
          have : pd ah (.tup []) = some (.tuple []) := rfl
          rw [this] at e2; cases e2; rfl
        have : ∃ ps, optAll (toP ah 62) ds = some ps ∧ PyData.tuple ps = p := by
          simpa [pd, deep, toP, Option.map_eq_some_iff] using e1
        obtain ⟨ps, h1, rfl⟩ := this
        rw [q0, eqv_tup_nil]
        have := optAll_length h1
        cases ds <;> cases ps <;> simp_all
      · cases e
    · cases e
  · simp [eqLen]
@[simp] theorem cNe_tupNil (ds : List D) (ah : AH) : cNe (.tup ds) (.tup []) ah = .ok (!ds.isEmpty) ah := by
  unfold cNe
  rw [cEq_tupNil]
  rfl
/-! slices -/
theorem cut_head {α : Type} (xs : List α) (i : Nat) : cut xs none (some (i : Int)) = xs.take i := by
  unfold cut
  rw [HT.sIx_none, HT.sIx_nat]
  simp
theorem cut_tail {α : Type} (xs : List α) (i : Nat) : cut xs (some (i : Int)) none = xs.drop i := by
  unfold cut
  rw [HT.sIx_none, HT.sIx_nat]
  by_cases h : i ≤ xs.length
  · rw [Nat.min_eq_left h, List.take_of_length_le (by simp)]
  · rw [Nat.min_eq_right (by omega), List.drop_of_length_le (Nat.le_refl _), List.drop_of_length_le (by omega)]
    simp
@[simp] theorem oCut_head (ds : List D) (i : Nat) (ah : AH) : oCut (.tup ds) none (some (i : Int)) ah = .ok (.tup (ds.take i)) ah := by simp [oCut, cut_head]
@[simp] theorem oCut_tail (ds : List D) (i : Nat) (ah : AH) : oCut (.tup ds) (some (i : Int)) none ah = .ok (.tup (ds.drop i)) ah := by simp [oCut, cut_tail]
@[simp] theorem oCut_tail1 (ds : List D) (i : Nat) (ah : AH) : oCut (.tup ds) (some ((i : Int) + 1)) none ah = .ok (.tup (ds.drop (i + 1))) ah := oCut_tail ds (i + 1) ah
@[simp] theorem oCut_head1 (ds : List D) (i : Nat) (ah : AH) : oCut (.tup ds) none (some ((i : Int) + 1)) ah = .ok (.tup (ds.take (i + 1))) ah := oCut_head ds (i + 1) ah
@[simp] theorem oRevT_tup (ds : List D) (ah : AH) : oRevT (.tup ds) ah = .ok (.tup ds.reverse) ah := rfl
theorem oAdd_tup {xs ys : List D} (ah : AH) (h : xs.length + ys.length ≤ line) : oAdd (.tup xs) (.tup ys) ah = .ok (.tup (xs ++ ys)) ah := by simp [oAdd, h]
/-- an item of a list of one's own -/
theorem lIx_mem {ds : List D} {i : Nat} (ah : AH) (h : i < ds.length) : ∃ x ∈ ds, lIx ds (.int i) ah = .ok x ah :=
  ⟨ds[i], List.getElem_mem h, lIx_nat ah (List.getElem?_eq_getElem h)⟩
theorem oIx_mem {ds : List D} {i n : Nat} {ah : AH} (hn : ah[n]? = some (.lst ds)) (h : i < ds.length) : ∃ x ∈ ds, oIx (.ref n) (.int i) ah = .ok x ah :=
  ⟨ds[i], List.getElem_mem h, oIx_lst hn (List.getElem?_eq_getElem h)⟩
/-! data made of data -/
theorem Dat.tup {B : Nat} {ah : AH} {n w : Nat} {ds : List D} {ps : List PyData} (h : optAll (toP ah n) ds = some ps) (t : tames B ps = true) (hw : PyData.weightAll ps ≤ w) : Dat B ah (n + 1) w (.tup ds) :=
  ⟨.tuple ps, by simp [toP, h], by simpa [tame] using t, by simpa [PyData.weight] using hw⟩
theorem Dat.lst {B : Nat} {ah : AH} {n w m : Nat} {ds : List D} {ps : List PyData} (hm : ah[m]? = some (.lst ds)) (h : optAll (toP ah n) ds = some ps) (t : tames B ps = true) (hw : PyData.weightAll ps ≤ w) : Dat B ah (n + 1) w (.ref m) :=
  ⟨.list ps, by simp [toP, hm, h], by simpa [tame] using t, by simpa [PyData.weight] using hw⟩
theorem Dat.tup_inv {B : Nat} {ah : AH} {n w : Nat} {ds : List D} (h : Dat B ah (n + 1) w (.tup ds)) : ∃ ps, optAll (toP ah n) ds = some ps ∧ tames B ps = true ∧ PyData.weightAll ps ≤ w := by
  obtain ⟨p, e, t, k⟩ := h
  simp only [toP, Option.map_eq_some_iff] at e
  obtain ⟨ps, q, rfl⟩ := e
  exact ⟨ps, q, by simpa [tame] using t, by simpa [PyData.weight] using k⟩
theorem weight_mem {p : PyData} : ∀ {ps : List PyData}, p ∈ ps → p.weight + 1 ≤ PyData.weightAll ps
  | [], h => by cases h
  | q :: ps, h => by
    simp only [PyData.weightAll]
    rcases List.mem_cons.mp h with rfl | z
    · omega
    · have := weight_mem z; omega
theorem weightAll_rev (ps : List PyData) : PyData.weightAll ps.reverse = PyData.weightAll ps := by
  induction ps with
  | nil => rfl
  | cons p ps ih => rw [List.reverse_cons, weightAll_app, ih]; simp only [PyData.weightAll]; omega
theorem weightAll_td (ps : List PyData) (i : Nat) : PyData.weightAll (ps.take i) + PyData.weightAll (ps.drop i) = PyData.weightAll ps := by
  rw [← weightAll_app, List.take_append_drop]
theorem tames_take {B : Nat} {ps : List PyData} (h : tames B ps = true) (i : Nat) : tames B (ps.take i) = true := tames_iff.mpr fun x hx => tames_iff.mp h x (List.mem_of_mem_take hx)
theorem tames_drop {B : Nat} {ps : List PyData} (h : tames B ps = true) (i : Nat) : tames B (ps.drop i) = true := tames_iff.mpr fun x hx => tames_iff.mp h x (List.mem_of_mem_drop hx)
theorem tames_rev {B : Nat} {ps : List PyData} (h : tames B ps = true) : tames B ps.reverse = true := tames_iff.mpr fun x hx => tames_iff.mp h x (List.mem_reverse.mp hx)
theorem ofString_signs (s : String) : ((Str.ofString s).cps.toList.all fun c => decide (c < 16 ^ 8)) = true := by
  rw [Str.ofString_eq_toList, List.all_eq_true]
  intro c hc
  simp only [List.mem_map] at hc
  obtain ⟨ch, _, rfl⟩ := hc
  rw [decide_eq_true_eq]
  have := ch.val.toNat_lt
  exact this
theorem Dat.toStr {B : Nat} {ah : AH} {i : Int} (h : i.natAbs < 2 ^ 290) : Dat B ah 1 300 (.str (toString i)) := by
  refine ⟨.str _, rfl, ?_, ?_⟩
  · simp only [tame]; exact ofString_signs _
  · simp only [PyData.weight]
    have l : i.natAbs.log2 < 290 := log2_lt (by decide) h
    have := int_text_length_le (k := 290) (by decide) l
    rw [← PySem.ofString_length] at this
    exact Nat.le_trans this (by decide)
end HA
namespace HA
open PySem PySem.Spec PyProof.Rows L2
/-- a loop whose turns go on, by an invariant -/
theorem forLoop_ind {t : Itm} {tm : TM} {body : SM} (ht : ∀ ah, t.okIn ah = true) (P : Nat → Env → AH → Prop) : ∀ (ds : List D) (j : Nat) (env : Env) (ah : AH),
    (∀ (i : Nat) d env ah, ds[i]? = some d → P (j + i) env ah → ∃ env1 env' ah', tm d env ah = some env1 ∧ body env1 ah = .nx env' ah' ∧ P (j + i + 1) env' ah') → P j env ah → ∃ env' ah', forLoop t tm body ds env ah = .nx env' ah' ∧ P (j + ds.length) env' ah'
  | [], j, env, ah, _, h => ⟨env, ah, by rw [forLoop_nil, if_pos (ht ah)], h⟩
  | d :: ds, j, env, ah, hs, h => by
    obtain ⟨env1, env', ah', e1, e2, h'⟩ := hs 0 d env ah rfl h
    obtain ⟨e3, a3, q, h3⟩ := forLoop_ind ht P ds (j + 1) env' ah' (fun i d env ah e h => by
      have := hs (i + 1) d env ah (by simpa using e) (by rw [show j + (i + 1) = j + 1 + i by omega]; exact h)
      rwa [show j + (i + 1) + 1 = j + 1 + i + 1 by omega] at this) h'
    refine ⟨e3, a3, ?_, by rw [List.length_cons, show j + (ds.length + 1) = j + 1 + ds.length by omega]; exact h3⟩
    rw [forLoop_cons, if_pos (ht ah), e1]
    simp only [e2, turn_nx, q]
/-- a comprehension none of whose tests is true -/
theorem lcLoop_none {t : Itm} {tm : TM} {test : EM Bool} {elt : EM D} {vs : List Nat} {env : Env} {ah : AH} (ht : t.okIn ah = true) : ∀ (ds acc : List D), acc.length < line → (∀ d ∈ ds, ∃ env1, tm d (wipeE env vs) ah = some env1 ∧ test env1 ah = .ok false ah) → lcLoop t tm test elt vs env ds acc ah = .ok acc ah
  | [], acc, _, _ => by unfold lcLoop; rw [if_pos ht]
  | d :: ds, acc, ha, h => by
    obtain ⟨env1, e1, e2⟩ := h d (by simp)
    unfold lcLoop
    rw [if_pos ⟨ht, ha⟩, e1]
    simp only [e2]
    exact lcLoop_none ht ds acc ha fun d hd => h d (List.mem_cons_of_mem _ hd)
@[simp] theorem iRange1_nat (n : Nat) (ah : AH) (h : n < 2 ^ 62 := by decide) : iRange1 (.int n) ah = .ok ⟨(List.range n).map fun (i : Nat) => D.int i, []⟩ ah := by
  unfold iRange1
  simp only
  rw [if_pos (by omega)]
  simp
end HA
namespace HA
open PySem PySem.Spec PyProof.Rows L2
section
variable (ah : AH) (f : Nat)
@[simp] theorem toP_non : toP ah (f + 1) .non = some .none := rfl
@[simp] theorem toP_bl (b : Bool) : toP ah (f + 1) (.bl b) = some (.bool b) := rfl
@[simp] theorem toP_int (i : Int) : toP ah (f + 1) (.int i) = some (.int i) := rfl
@[simp] theorem toP_str (x : Str) : toP ah (f + 1) (.str x) = some (.str x) := rfl
theorem toP_tup (ds : List D) : toP ah (f + 1) (.tup ds) = (optAll (toP ah f) ds).map .tuple := rfl
theorem toP_lst {m : Nat} {ds : List D} (h : ah[m]? = some (.lst ds)) : toP ah (f + 1) (.ref m) = (optAll (toP ah f) ds).map .list := by simp only [toP, h]
theorem toP_dk {m : Nat} {kvs : List (Key × D)} (h : ah[m]? = some (.dK kvs)) : toP ah (f + 1) (.ref m) = (optAll (toP ah f) (kvs.map (·.2))).map fun vs => .dict ((kvs.map fun kv => keyP kv.1).zip vs) := by simp only [toP, h]
end
end HA
namespace HA
open PySem PySem.Spec PyProof.Rows L2
theorem lCat_ok {x y : LT} {ah : AH} {xs ys : List D} (h1 : ltOf x ah = some xs) (h2 : ltOf y ah = some ys) (hl : xs.length + ys.length ≤ line) : lCat x y ah = .ok (xs ++ ys) ah := by
  unfold lCat
  simp only [h1, h2]
  rw [if_pos hl]
end HA

/-! HA20: list(reversed(xs)). -/
namespace HA
open PySem PySem.Spec PyProof.Rows L2 RT
section
variable {prog : Program} {w : World} {A : Around} {E : Value → Shared → Prop} {s : Shared} {R : Result → Shared → Prop}
/-- the list at S, empty, takes what a walk back over the list at l gives -/
theorem ext_rev {S it l : Addr} {items : Array Value} {c₀ : Nat} {res : Value} (hh : A.in1.handled = none) (hit : s.heap.IsRevIter it l ((items.size : Int) - 1)) (hl : s.heap.IsList l items) (hne : l ≠ it) (hSi : S ≠ it) (hSl : S ≠ l) (hn : items.size ≤ sizeLine)
    (hS : s.heap.get? S = some { cls := .type "list", data := .seq #[] c₀ })
    (hR : ∀ s' acc' c', Moved [S, it] (fun a b => b = a) s s' → s'.heap.get? S = some { cls := .type "list", dict := none, data := .seq acc' c', slots := #[] } → ItemsOf (fun i v => items[items.size - 1 - i]? = some v) acc' items.size → R (.ok (.ret res)) s') :
    wpAny (model prog w) A.in1 (Builtin.List.listExtendWith (.ref S) (.ref it) res)
      (fun fin s' => match fin with | .done f => R (.ok f) s' | .again c' => c'.quiet = true ∧ codeAny (model prog w) A c' R s') (fun e s' => R (.error e) s') s := by
  have W := (Walks.listRev (prog := prog) (w := w) (A := A.in1) hh it l hne items).toS
  have hSf : S ∉ [it, l] := by simp only [List.mem_cons, List.not_mem_nil, or_false, not_or]; exact ⟨hSi, hSl⟩
  have hT : s.TypeIs (.ref it) "list_reverseiterator" := hit.typeIs
  have h1 : Builtin.List.listSameRef (.ref S) (.ref it) = false := by simp [Builtin.List.listSameRef, hSi]
  unfold Builtin.List.listExtendWith
  refine wpAny_bind (wpAny_typeOf hT ?_)
  rw [if_neg (by rw [h1]; decide)]
  refine wpAny_bind (wpAny_pyIter_revIter hit (wpAny_bind (wpAny_holding ?_)))
  unfold Builtin.List.listLengthHint
  refine wpAny_bind (wpAny_specialOf hT nolen_lri ?_)
  show wpAny _ A.in1 (specialOf (Value.ref it) (Str.ofString "__length_hint__") >>= _) _ _ s
  refine wpAny_bind (wpAny_specialOf hT hint_lri ?_)
  generalize hid : ("list_reverseiterator.__length_hint__" : String) = id0
  wp_delta
  rw [show splitId id0 = some ("list_reverseiterator", "__length_hint__") from by subst hid; decide +kernel]
  subst hid
  refine wpAny_bind (wpAny_isInstance (b := true) hT (by rw [isSubtype_type]; kernel_rfl) (wpAny_pure ?_))
  rw [if_neg (by decide)]
  have e0 : ((items.size : Nat) : Int) - 1 - ((0 : Nat) : Int) = (items.size : Int) - 1 := by omega
  refine wpAny_pure ⟨plainId_quiet F.plain_extend_loop _, codeAny_extend_loopS W hn _ hSf _ items.size 0 _ _ _ rfl (Nat.zero_le _) ⟨Nat.zero_le _, by rw [e0]; exact hit, hl⟩ hS (ItemsOf.nil _) fun s' acc' c' hm hS' hacc => ?_⟩
  exact hR s' acc' c' hm hS' hacc
theorem init_rev {S it l : Addr} {items : Array Value} (hh : A.in1.handled = none) (hit : s.heap.IsRevIter it l ((items.size : Int) - 1)) (hl : s.heap.IsList l items) (hne : l ≠ it) (hSi : S ≠ it) (hSl : S ≠ l) (hn : items.size ≤ sizeLine)
    (hS : s.heap.get? S = some { cls := .type "list", data := .seq #[] })
    (hR : ∀ s' acc' c', Moved [S, it] (fun a b => b = a) s s' → s'.heap.get? S = some { cls := .type "list", dict := none, data := .seq acc' c', slots := #[] } → ItemsOf (fun i v => items[items.size - 1 - i]? = some v) acc' items.size → R (.ok (.ret .none)) s') :
    wpAny (model prog w) A.in1 (Builtin.«list.__init__» ⟨[.ref S, .ref it], []⟩)
      (fun fin s' => match fin with | .done f => R (.ok f) s' | .again c' => c'.quiet = true ∧ codeAny (model prog w) A c' R s') (fun e s' => R (.error e) s') s := by
  show wpAny _ A.in1 (do let old ← Builtin.List.listItems (.ref S); Builtin.List.listUpdate (.ref S) (fun _ => #[]); letGo old.toList.reverse; Builtin.List.listExtendWith (.ref S) (.ref it) .none) _ _ s
  refine wpAny_bind ?_
  unfold Builtin.List.listItems
  refine wpAny_bind (wpAny_seqItems hS rfl (wpAny_pure ?_))
  show wpAny _ A.in1 (updateSeq S (fun _ => #[]) >>= fun _ => letGo (#[] : Array Value).toList.reverse >>= fun _ => Builtin.List.listExtendWith (.ref S) (.ref it) .none) _ _ s
  have hS₂ := Heap.get?_update_self (Obj.mapSeq (fun _ => (#[] : Array Value))) hS rfl
  have oth : ∀ b o, b ≠ S → s.heap.get? b = some o → (s.heap.update S (Obj.mapSeq (fun _ => (#[] : Array Value)))).get? b = some o := fun b o hb e => (Heap.get?_update_other _ _ (Ne.symm hb)).trans e
  refine wpAny_bind (wpAny_updateSeq hS rfl (wpAny_bind (wpAny_letGo ?_)))
  refine ext_rev (items := items) hh (hit.at fun o e => oth it o (Ne.symm hSi) e) (let ⟨o, e, r⟩ := hl; ⟨o, oth l o (Ne.symm hSl) e, r⟩) hne hSi hSl hn hS₂ fun s' acc' c' hm hS' hacc => hR s' acc' c' ⟨fun b o hb e => ?_, hm.gens, hm.drawn, hm.os, hm.toks⟩ hS' hacc
  exact hm.heap b o hb (oth b o (fun z => hb (by rw [z]; simp)) e)
theorem call_list_rev {it l : Addr} {items : Array Value} {Q : Value → Shared → Prop} (hh : A.handled = none) (hit : s.heap.IsRevIter it l ((items.size : Int) - 1)) (hl : s.heap.IsList l items) (hne : l ≠ it) (hn : items.size ≤ sizeLine)
    (hQ : ∀ (s' : Shared) (acc : Array Value) (c : Nat), (∀ b o, b ≠ it → s.heap.get? b = some o → s'.heap.get? b = some o) → s'.gens = s.gens → s'.drawn = s.drawn → s'.os = s.os → s'.heap.get? s.heap.objs.size = some { cls := .type "list", dict := none, data := .seq acc c, slots := #[] } →
      ItemsOf (fun i v => items[items.size - 1 - i]? = some v) acc items.size → Q (.ref s.heap.objs.size) s') : wpAny (model prog w) A (call (.type "list") [.ref it]) Q E s := by
  obtain ⟨oi, hoi, _⟩ := id hit
  obtain ⟨ol, hol, _⟩ := id hl
  have hSi : s.heap.objs.size ≠ it := Nat.ne_of_gt (Heap.lt_size hoi)
  have hSl : s.heap.objs.size ≠ l := Nat.ne_of_gt (Heap.lt_size hol)
  refine callType_codes (Q₁ := fun obj s₁ => obj = .ref s.heap.objs.size ∧ s₁ = { s with heap := s.heap.push { cls := .type "list", data := .seq #[] } }) F.called_list (F.typeCall_list_1 _) F.entry_list_init (code_list_new _ ⟨rfl, rfl⟩) fun obj s₁ h₁ => ?_
  obtain ⟨rfl, rfl⟩ := h₁
  have hS : (s.heap.push { cls := .type "list", data := .seq #[] }).get? s.heap.objs.size = some { cls := .type "list", data := .seq #[] } := Heap.get?_push_size _ rfl
  have up : ∀ b o, s.heap.get? b = some o → (s.heap.push { cls := .type "list", data := .seq #[] }).get? b = some o := fun b o e => Heap.get?_push_of_some _ e
  refine ⟨⟨_, hS, rfl⟩, F.args_list_init_2 _ _, init_rev (items := items) (s := { s with heap := s.heap.push { cls := .type "list", data := .seq #[] } }) hh (hit.at fun o e => up it o e) (let ⟨o, e, r⟩ := hl; ⟨o, up l o e, r⟩) hne hSi hSl hn hS fun s' acc' c' hm hS' hacc => ?_⟩
  refine ⟨rfl, hQ s' acc' c' (fun b o hb e => hm.heap b o ?_ (up b o e)) hm.gens hm.drawn hm.os hS' hacc⟩
  simp only [List.mem_cons, List.not_mem_nil, or_false, not_or]
  exact ⟨Nat.ne_of_lt (Heap.lt_size e), hb⟩
end
section
variable {X : Cx} {W : WX} {e : Expr} {ml : EM (List D)}
/-- list(reversed(x)), x a list: a new list -/
def tListRev (K : PySem.W.Frag) (te : TE) : TE := fun σ H Q => te σ H fun v H1 => ∃ (a : Addr) (xs : List V), v = .ref a ∧ SqL K H1 a xs ∧ ∀ q, H1 q = none → Q (.ref q) (upd H1 q (.lst xs.reverse))
theorem pe_listRev {te : TE} {p p2 pos pos2 : Pos} (hc : X.calm = true) (hg : Gl X "list") (hm : X.mg "list" = none) (hg2 : Gl X "reversed") (hm2 : X.mg "reversed" = none) (he : PE X e te)
    (hs : starEach [e] X.env = (false, eval e X.env) :: starEach [] X.env := by rfl) (hs2 : starEach [.Call (.Name "reversed" p2) [e] [] pos2] X.env = (false, eval (.Call (.Name "reversed" p2) [e] [] pos2) X.env) :: starEach [] X.env := by rfl) :
    PE X (.Call (.Name "list" p) [.Call (.Name "reversed" p2) [e] [] pos2] [] pos) (tListRev X.K te) := by
  refine ⟨fun pins s σ H Q I h => ?_⟩
  refine Call_ (ld_blt I hg hm (show bootBuiltins ("list" : Str) = some (.type "list") by decide +kernel) (PyProof.Rows.callWith_type1 (args_cons (Call_ (ld_blt I hg2 hm2 PyProof.Rows.boot_reversed (PyProof.Rows.callWith_type1 (args_cons (thn (he.run pins s σ H _ I h) fun u s1 ⟨v, H1, I1, r1, q1⟩ => args_nil ?_) hs) hs rfl))) hs2) hs2 rfl))
  obtain ⟨a, xs, ev, hq, q⟩ := q1
  subst ev
  obtain rfl : u = Value.ref a := r1
  obtain ⟨its, rv, p', hz⟩ := I1.list hq
  refine call_reversed_list p'.isList (args_nil ?_)
  have k0 : ∀ b o, s1.heap.get? b = some o → (s1.heap.push (revObj a ((its.toArray.size : Int) - 1))).get? b = some o := fun b o e => Heap.get?_push_of_some _ e
  have I2 : Inv X pins σ H1 { s1 with heap := s1.heap.push (revObj a ((its.toArray.size : Int) - 1)) } := I1.kept (t' := s1.toks) k0
  have hl := p'.isList
  obtain ⟨ol, hol, _⟩ := id hl
  have hne : a ≠ s1.heap.objs.size := Nat.ne_of_lt (Heap.lt_size hol)
  have hn : its.toArray.size ≤ sizeLine := by rw [List.size_toArray, ← rv.length]; exact hz
  refine call_list_rev (s := { s1 with heap := s1.heap.push (revObj a ((its.toArray.size : Int) - 1)) }) (I1.ok.hd hc) ⟨_, Heap.get?_push_size _ rfl, rfl, rfl⟩ (hl.push _) hne hn fun s' acc c hk g1 g2 g3 hS hi => ?_
  obtain ⟨hp', gg, dd, tk', oo⟩ := s'
  obtain rfl : gg = s1.gens := g1
  obtain rfl : dd = s1.drawn := g2
  obtain rfl : oo = s1.os := g3
  have fr : H1 (s1.heap.push (revObj a ((its.toArray.size : Int) - 1))).objs.size = none := I2.hok.fresh (Nat.le_refl _)
  have ob : ObjOk X.prog X.w (upd H1 (s1.heap.push (revObj a ((its.toArray.size : Int) - 1))).objs.size (.lst xs.reverse)) hp' (s1.heap.push (revObj a ((its.toArray.size : Int) - 1))).objs.size (.lst xs.reverse) :=
    ⟨by rw [List.length_reverse]; exact hz, acc.toList, c, vals_rev rv hi, by rw [Array.toArray_toList]; exact hS⟩
  have I4 := I2.turnedNew (t' := tk') (h' := hp') (ch := [s1.heap.objs.size]) (fun b o hb e => hk b o (by simpa using hb) e) (fun b hb => by
    obtain rfl : b = s1.heap.objs.size := by simpa using hb
    exact ⟨(I1.fpOk (H' := H1) (Nat.le_refl _) (I1.hok.fresh (Nat.le_refl _))).1, (I1.fpOk (H' := H1) (Nat.le_refl _) (I1.hok.fresh (Nat.le_refl _))).2⟩) (Nat.le_refl _) ob
  exact ⟨.ref _, _, I4, rfl, q _ fr⟩
/-- list(reversed(x)), x a list -/
theorem pl_listRev {p p2 pos pos2 : Pos} (hc : X.calm = true) (hg : Gl X "list") (hm : X.mg "list" = none) (hg2 : Gl X "reversed") (hm2 : X.mg "reversed" = none) (he : PM X W e ml)
    (hs : starEach [e] X.env = (false, eval e X.env) :: starEach [] X.env := by rfl) (hs2 : starEach [.Call (.Name "reversed" p2) [e] [] pos2] X.env = (false, eval (.Call (.Name "reversed" p2) [e] [] pos2) X.env) :: starEach [] X.env := by rfl) :
    PL X W (.Call (.Name "list" p) [.Call (.Name "reversed" p2) [e] [] pos2] [] pos) (e1 ml lRevL) := by
  refine PE.weak (pe_listRev hc hg hm hg2 hm2 he hs hs2) fun σ H Q ⟨μ, env, ah, hE, S, hp⟩ => ?_
  refine ⟨μ, env, ah, hE, S, hp.bind fun ds ah1 μ1 x H1 e1 s1 r1 p1 => ?_⟩
  obtain ⟨a, vs, rfl, q, r⟩ := r1
  exact ⟨a, vs, rfl, q, fun p np => Post.newL p1 s1 r.reverse np⟩
end
end HA

/-! HA21: a, b, *rest = a tuple. -/
namespace HA
open PySem PySem.Spec PyProof.Rows L2 RT
theorem nolen_ti : typeLookup (.type "tuple_iterator") "__len__" = pure none := by rw [typeLookup_type, builtinLookup_eq_fast]; kernel_rfl
theorem hint_ti : typeLookup (.type "tuple_iterator") "__length_hint__" = pure (some (.builtin "tuple_iterator.__length_hint__")) := by rw [typeLookup_type, builtinLookup_eq_fast]; kernel_rfl
section
variable {prog : Program} {w : World} {A : Around} {E : Value → Shared → Prop} {s : Shared} {R : Result → Shared → Prop}
/-- a walk over a tuple, from its i-th item on -/
theorem walk_from (hh : A.handled = none) {it t : Addr} (hne : t ≠ it) (items : Array Value) {i : Nat} (hi : i ≤ items.size) :
    Walks prog w A it [it, t] [it] (items.size - i) (fun j v => items[i + j]? = some v) (fun j h => h.IsTupleIter it t (i + j) ∧ h.IsTuple t items) where
  sub := fun b hb => by simp at hb; simp [hb]
  frame := fun j h h' st k => (Walks.tuple (prog := prog) (w := w) (A := A) hh it t hne items).frame (i + j) h h' st k
  item := fun j s Q E hj st hQ => (Walks.tuple (prog := prog) (w := w) (A := A) hh it t hne items).item (i + j) s Q E (by omega) st fun v h' tk e st' k => hQ v h' tk e st' k
  done := fun s Q E st hQ => (Walks.tuple (prog := prog) (w := w) (A := A) hh it t hne items).done s Q E (by rw [show i + (items.size - i) = items.size by omega] at st; exact st) hQ
  self := fun j s Q E st hQ => (Walks.tuple (prog := prog) (w := w) (A := A) hh it t hne items).self (i + j) s Q E st hQ
theorem collect_tup {it t : Addr} {items : Array Value} {i : Nat} {Q : List Value → Shared → Prop} (hh : A.handled = none) (hit : s.heap.IsTupleIter it t i) (ht : s.heap.IsTuple t items) (hne : t ≠ it) (hi : i ≤ items.size) (hn : items.size ≤ sizeLine)
    (hQ : ∀ (h' : Heap) (tk : Nat) (acc : Array Value), (∀ b o, b ≠ it → s.heap.get? b = some o → h'.get? b = some o) → ItemsOf (fun j v => items[i + j]? = some v) acc (items.size - i) → Q acc.toList { s with heap := h', toks := tk }) :
    wpAny (model prog w) A (collect (.ref it)) Q E s := by
  have W := (walk_from (prog := prog) (w := w) (A := A.in1) hh hne items hi).toS
  obtain ⟨oi, hoi, _⟩ := id hit
  obtain ⟨ot, hot, _⟩ := id ht
  have hSi : s.heap.objs.size ≠ it := Nat.ne_of_gt (Heap.lt_size hoi)
  have hSt : s.heap.objs.size ≠ t := Nat.ne_of_gt (Heap.lt_size hot)
  have hSf : s.heap.objs.size ∉ [it, t] := by simp only [List.mem_cons, List.not_mem_nil, or_false, not_or]; exact ⟨hSi, hSt⟩
  let h0 : Heap := s.heap.push { cls := .type "list", data := .seq ([] : List Value).toArray }
  have up : ∀ b o, s.heap.get? b = some o → h0.get? b = some o := fun b o e => Heap.get?_push_of_some _ e
  unfold collect
  refine wpAny_bind (wpAny_runValue (codeAny_builtin F.entry_proto_collect ?_))
  rw [Around.under_plainId F.plain_proto_collect _]
  show wpAny _ A.in1 (newList [] >>= fun l' => again (.builtin "list.__iadd__" ⟨[l', .ref it], []⟩)) _ _ s
  refine wpAny_bind (wpAny_newObj_type (wpAny_pure ⟨plainId_quiet F.plain_list_iadd _, codeAny_builtin F.entry_list_iadd ?_⟩))
  rw [Around.under_plainId F.plain_list_iadd _]
  have hS : h0.get? s.heap.objs.size = some { cls := .type "list", data := .seq ([] : List Value).toArray } := Heap.get?_push_size _ rfl
  have hit1 : h0.IsTupleIter it t i := let ⟨o, e, r⟩ := hit; ⟨o, up it o e, r⟩
  have ht1 : h0.IsTuple t items := let ⟨o, e, r⟩ := ht; ⟨o, up t o e, r⟩
  have hT : ({ s with heap := h0 } : Shared).TypeIs (.ref it) "tuple_iterator" := let ⟨o, e, c, _⟩ := hit1; ⟨o, e, c⟩
  have h1 : Builtin.List.listSameRef (.ref s.heap.objs.size) (.ref it) = false := by simp [Builtin.List.listSameRef, hSi]
  show wpAny _ A.in1 (Builtin.List.listExtendWith (.ref s.heap.objs.size) (.ref it) (.ref s.heap.objs.size)) _ _ { s with heap := h0 }
  unfold Builtin.List.listExtendWith
  refine wpAny_bind (wpAny_typeOf hT ?_)
  rw [if_neg (by rw [h1]; decide)]
  refine wpAny_bind (W.self 0 { s with heap := h0 } _ _ ⟨hit1, ht1⟩ (wpAny_bind (wpAny_holding ?_)))
  unfold Builtin.List.listLengthHint
  refine wpAny_bind (wpAny_specialOf hT nolen_ti ?_)
  show wpAny _ A.in1 (specialOf (Value.ref it) (Str.ofString "__length_hint__") >>= _) _ _ { s with heap := h0 }
  refine wpAny_bind (wpAny_specialOf hT hint_ti ?_)
  generalize hid : ("tuple_iterator.__length_hint__" : String) = id0
  wp_delta
  rw [show splitId id0 = some ("tuple_iterator", "__length_hint__") from by subst hid; decide +kernel]
  subst hid
  refine wpAny_bind (wpAny_isInstance (b := true) hT (by rw [isSubtype_type]; kernel_rfl) (wpAny_pure ?_))
  rw [if_neg (by decide)]
  refine wpAny_pure ⟨plainId_quiet F.plain_extend_loop _, codeAny_extend_loopS W (by omega) _ hSf _ (items.size - i) 0 _ _ _ rfl (Nat.zero_le _) ⟨hit1, ht1⟩ hS (ItemsOf.nil _) fun s' acc' c' hm hS' hacc => ?_⟩
  show wpAny _ A (load s.heap.objs.size >>= _) _ _ s'
  refine wpAny_bind (wpAny_load hS' (wpAny_pure ?_))
  rw [Moved.eq_with hm]
  refine hQ s'.heap s'.toks acc' (fun b o hb e => hm.heap b o ?_ (up b o e)) hacc
  simp only [List.mem_cons, List.not_mem_nil, or_false, not_or]
  exact ⟨Nat.ne_of_lt (Heap.lt_size e), hb⟩
theorem drop_items {items acc : Array Value} {i : Nat} (h : ItemsOf (fun j v => items[i + j]? = some v) acc (items.size - i)) : acc.toList = items.toList.drop i := by
  apply List.ext_getElem?
  intro j
  rw [List.getElem?_drop]
  by_cases hj : j < acc.size
  · have e1 : acc[j]? = some acc[j] := Array.getElem?_eq_getElem hj
    have e2 := h.2 j _ e1
    rw [Array.getElem?_toList, Array.getElem?_toList, e1, e2]
  · rw [List.getElem?_eq_none (by simpa using hj), List.getElem?_eq_none (by have := h.1; simp; omega)]
theorem unpackItems_star {t : Addr} {items : Array Value} {i : Nat} {Q : List Value → Shared → Prop} (hh : A.handled = none) (ht : IsTup s.heap t items) (hi : i ≤ items.size) (hn : items.size ≤ sizeLine)
    (hQ : ∀ (h' : Heap) (tk : Nat), (∀ b o, s.heap.get? b = some o → h'.get? b = some o) → Q (items.toList.take i ++ [.ref h'.objs.size]) { s with heap := h'.push { cls := .type "list", data := .seq (items.toList.drop i).toArray }, toks := tk }) :
    wpAny (model prog w) A (unpackItems (.ref t) (i + 1) (some i)) Q E s := by
  have hlt : t ≠ s.heap.objs.size := by obtain ⟨o, ho, _⟩ := ht; exact Nat.ne_of_lt (Heap.lt_size ho)
  unfold unpackItems
  refine wpAny_bind ?_
  unfold notIterableAtAll
  refine wpAny_bind (wpAny_specialOf ht.typeIs slot_tuple_iter.lookup (wpAny_pure ?_))
  simp only [Bool.false_eq_true, if_false]
  refine wpAny_bind (wpAny_holding (iter_tuple ht ?_))
  refine wpAny_bind (wpAny_holding (draw_tuple hlt i 0 _ _ ⟨_, Heap.get?_push_size _ rfl, rfl, rfl⟩ (ht.push _) (by omega) fun h₁ hit₁ hs₁ => ?_))
  have hl : (List.take i (List.drop 0 items.toList)).length = i := by simp; omega
  rw [if_neg (by rw [hl]; omega)]
  have ht₁ : IsTup h₁ t items := (ht.push _).extBut hs₁.extBut hlt
  rw [Nat.zero_add] at hit₁
  refine wpAny_bind (wpAny_holding (collect_tup (s := { s with heap := h₁ }) hh hit₁ ht₁ hlt hi hn fun h₂ tk acc k₂ hacc => ?_))
  have ha := drop_items hacc
  rw [ha]
  try dsimp only
  rw [show i + 1 - 1 - i = 0 by omega, if_neg (Nat.not_lt_zero _), Nat.sub_zero, List.take_length, List.drop_length]
  refine wpAny_bind ?_
  show wpAny _ _ (newList (List.drop i items.toList)) _ _ _
  refine wpAny_newObj_type ?_ (by show (List.drop i items.toList).toArray.size ≤ sizeLine; rw [List.size_toArray, List.length_drop, Array.length_toList]; omega)
  refine wpAny_pure ?_
  rw [List.append_nil, List.drop_zero]
  have old : ∀ b o, s.heap.get? b = some o → b ≠ s.heap.objs.size := fun b o e => Nat.ne_of_lt (Heap.lt_size e)
  exact hQ h₂ tk fun b o e => k₂ b o (old b o e) (hs₁.extBut b o (old b o e) (Heap.get?_push_of_some _ e))
end
section
variable {X : Cx} {W : WX} {pos : Pos}
/-- (a, b, .., *rest) = a tuple: rest a new list -/
def gStar (K : PySem.W.Frag) (n : Nat) (t : TGs) : TG := fun v σ H Q => ∃ a xs, v = .ref a ∧ SqT K H a xs ∧ n ≤ xs.length ∧ ∀ p, H p = none → t (xs.take n ++ [.ref p]) σ (upd H p (.lst (xs.drop n))) Q
theorem pg_star {es es' : List Expr} {k : Nat} {t : TGs} {n : Nat} (hc : X.calm = true) (h : PGs X es' t) (hn : (assignEach es X.env).length = n + 1 := by rfl) (hst : (assignEach es X.env).findIdx? (·.1) = some n := by rfl)
    (hm : (assignEach es X.env).map (·.2) = (assignEach es' X.env).map (·.2) := by rfl) : PG X (.Tuple es k pos) (gStar X.K n t) := by
  refine ⟨fun pins s σ H v u Q I r hw => ?_⟩
  obtain ⟨a, xs, e1, hq, hl, hw⟩ := hw
  subst e1
  cases r
  obtain ⟨its, rv, ht, hz⟩ := I.tuple hq
  have lx := rv.length
  rw [assign_Tuple]
  refine wpAny_bind (wpAny_standAt ?_)
  unfold unpack
  rw [hn, hst]
  refine wpAny_bind (wpAny_holding (unpackItems_star (i := n) (I.ok.hd hc) ht (by rw [List.size_toArray]; omega) (by rw [List.size_toArray]; omega) fun h' tk hx => ?_))
  rw [hm]
  have I1 : Inv X pins σ H { s with heap := h', toks := tk } := I.kept (t' := tk) hx
  have ob : ObjOk X.prog X.w (upd H h'.objs.size (.lst (xs.drop n))) (h'.push { cls := .type "list", data := .seq (its.toArray.toList.drop n).toArray }) h'.objs.size (.lst (xs.drop n)) := by
    refine ⟨by rw [List.length_drop]; omega, its.drop n, 0, rv.drop n, ?_⟩
    exact Heap.get?_push_size _ rfl
  have I2 := I1.laid (t' := tk) (fun b o e => Heap.get?_push_of_some { cls := .type "list", data := .seq (its.toArray.toList.drop n).toArray } e) (Nat.le_refl _) ob
  refine h.run pins _ σ _ _ _ Q I2 ?_ (hw h'.objs.size (I1.hok.fresh (Nat.le_refl _)))
  exact Vals.append (by simpa using rv.take n) (.cons rfl .nil)
end
end HA
namespace HA
open PySem PySem.Spec PyProof.Rows L2
/-! ### targets that make lists -/
abbrev TMX := D → HA.Env → AH → Option (HA.Env × AH)
def tGtX (K : PySem.W.Frag) (ts : List Nat) (tm : TMX) : TG := fun v σ H Q => ∃ μ env ah d p, EnvRel K μ H env σ ∧ Sim K μ H ah ∧ Rep K μ H d v ∧ tm d env ah = some p ∧ ∀ μ' σ' H', Ext K μ H μ' H' → Sim K μ' H' p.2 → EnvRel K μ' H' p.1 σ' → But ts σ σ' → Q σ' H'
def PTX (X : Cx) (tg : Expr) (ts : List Nat) (tm : TMX) : Prop := PG X tg (tGtX X.K ts tm)
def gStarD (n : Nat) (u : List D → HA.Env → AH → Option HA.Env) : TMX := fun d env ah => match d with
  | .tup ds => if n ≤ ds.length then (u (ds.take n ++ [.ref ah.length]) env (ah ++ [.lst (ds.drop n)])).map fun env1 => (env1, ah ++ [.lst (ds.drop n)]) else none
  | _ => none
def forLoopX (t : Itm) (tm : TMX) (body : SM) : List D → HA.Env → AH → SRes
  | [], env, ah => if t.okIn ah = true then .nx env ah else .stuck
  | d :: ds, env, ah => if t.okIn ah = true then match tm d env ah with
    | some p => (body p.1 p.2).turn (forLoopX t tm body ds)
    | none => .stuck else .stuck
def sForX (mi : EM Itm) (tm : TMX) (body : SM) : SM := fun env ah => (mi env ah).thenS env fun t ah1 => forLoopX t tm body t.items env ah1
def sAsgX (m : EM D) (tm : TMX) : SM := fun env ah => (m env ah).thenS env fun d ah1 => match tm d env ah1 with
  | some p => .nx p.1 p.2
  | none => .stuck
section
variable {X : Cx} {W : WX} {e tg : Expr} {es es' : List Expr} {m : EM D} {pos : Pos} {ts : List Nat} {n : Nat}
def unStar : List Expr → List Expr
  | [] => []
  | .Starred t _ :: r => t :: unStar r
  | e :: r => e :: unStar r
theorem pt_star {j : Nat} {u : List D → HA.Env → AH → Option HA.Env} (hc : X.calm = true) (h : PTn X (unStar es) ts u) (hn : (assignEach es X.env).length = n + 1 := by rfl) (hst : (assignEach es X.env).findIdx? (·.1) = some n := by rfl)
    (hm : (assignEach es X.env).map (·.2) = (assignEach (unStar es) X.env).map (·.2) := by rfl) : PTX X (.Tuple es j pos) ts (gStarD n u) := by
  refine PG.weak (pg_star hc h hn hst hm) fun v σ H Q ⟨μ, env, ah, d, p, he, hs, r, eq, q⟩ => ?_
  unfold gStarD at eq
  split at eq
  · rename_i ds
    split at eq
    · rename_i hl
      rw [Option.map_eq_some_iff] at eq
      obtain ⟨env1, eq, rfl⟩ := eq
      obtain ⟨a, vs, rfl, q1, r1⟩ := d_tup r
      refine ⟨a, vs, rfl, q1, by rw [← r1.length]; exact hl, fun p hp => ?_⟩
      have ex : Ext X.K μ H (μ ++ [p]) (upd H p (.lst (vs.drop n))) := Ext.ours hp hs.mpos
      have s1 : Sim X.K (μ ++ [p]) (upd H p (.lst (vs.drop n))) (ah ++ [.lst (ds.drop n)]) := hs.new hp rfl ⟨vs.drop n, upd_same, (r1.ext ex).drop n⟩
      refine ⟨μ ++ [p], env, ah ++ [.lst (ds.drop n)], ds.take n ++ [.ref ah.length], env1, he.ext ex, s1, ((r1.ext ex).take n).append (Reps.cons ?_ Reps.nil), eq, fun σ' he' bt => q (μ ++ [p]) σ' _ ex s1 he' bt⟩
      simp only [Rep]
      exact ⟨p, by rw [← hs.len]; simp, rfl⟩
    · cases eq
  · cases eq
theorem pz_asgX {t : TMX} (h : PD X W e m) (hg : PTX X tg ts t) (hs : swapsWithSole [tg] e pos.line X.env = pure false := by rfl) (hw : swappedStores [tg] e X.env = pure none := by rfl) (h1 : (assignEach [tg] X.env).map (·.2) = [assign tg X.env] := by rfl) : PZ X W (.Assign [tg] e pos) (sAsgX m t) := by
  refine PS.weak (ps_asg h hg hs hw h1) fun D σ H q => ?_
  obtain ⟨μ, env, ah, he, hs, hp⟩ := q
  refine ⟨μ, env, ah, he, hs, PostS.bind hp he fun d ah1 μ1 x H1 e1 s1 r1 p1 => ?_⟩
  split at p1
  · rename_i p eq
    exact ⟨μ1, env, ah1, d, p, he.ext e1, s1, r1, eq, fun μ' σ' H' ex s' he' _ => p1 μ' σ' H' ex s' he'⟩
  · exact p1.elim
theorem pz_forX {iter : Expr} {body : List Stmt} {mi : EM Itm} {tm : TMX} {mb : SM} (hp : PassesOwn (model X.prog X.w) X.A X.env X.xe) (hc : X.calm = true) (hi : PF X W tg iter mi) (hg : PTX X tg ts tm) (hb : PZs X W body mb)
    (hs : ∀ x, foldedSetIterable iter X.env x = pure x := by intro _; rfl) : PZ X W (.For tg iter body [] pos) (sForX mi tm mb) := by
  refine PS.weak (ps_for hp hc hi hg hb hs) fun D σ H ⟨μ, env, ah, he, hs, hp⟩ => ?_
  refine ⟨μ, env, ah, he, hs, PostS.bind hp he fun t ah1 μ1 J H1 e1 s1 r1 p1 => ?_⟩
  have ok1 : ItOk X.K μ1 H1 t J := r1
  refine ⟨fun i n σ' H' => ∃ μ' env' ah', Ext X.K μ1 H1 μ' H' ∧ Sim X.K μ' H' ah' ∧ EnvRel X.K μ' H' env' σ' ∧ PostS X.K W D μ' H' (forLoopX t tm mb (t.items.drop i) env' ah') ∧ i + n = t.items.length, ⟨t.items.length, μ1, env, ah1, Ext.refl, s1, he.ext e1, by rw [List.drop_zero]; exact p1, by omega⟩, ?_⟩
  rintro i n σ' H' ⟨μ', env', ah', ex, S, er, po, hn⟩
  by_cases hi : i < t.items.length
  · have ed : t.items[i]? = some t.items[i] := List.getElem?_eq_getElem hi
    rw [List.drop_eq_getElem_cons hi] at po
    unfold forLoopX at po
    split at po
    · rename_i okb
      obtain ⟨_, ok2⟩ := ok1 i μ' H' ah' ex S okb
      obtain ⟨go, yl⟩ := ok2 _ ed
      refine .inr ⟨go, _, fun σ2 H2 h => ⟨n - 1, by omega, h⟩, fun x H'' y => ?_⟩
      obtain ⟨ex2, S2, rx⟩ := yl x H'' y
      split at po
      · rename_i p et
        refine ⟨μ', env', ah', _, p, er.ext ex2, S2, rx, et, fun μ3 σ3 H3 x3 s3 he3 _ => ⟨μ3, p.1, p.2, he3, s3, ?_⟩⟩
        have x23 := ex2.trans x3
        have fin : ∀ {μ5 : List Addr} {H5 : Hp} {σ5 : L2.St} {e5 : HA.Env} {a5 : AH}, Ext X.K μ3 H3 μ5 H5 → Sim X.K μ5 H5 a5 → EnvRel X.K μ5 H5 e5 σ5 → PostS X.K W D μ' H' (forLoopX t tm mb (t.items.drop (i + 1)) e5 a5) →
            ∃ μ' env' ah', Ext X.K μ1 H1 μ' H5 ∧ Sim X.K μ' H5 ah' ∧ EnvRel X.K μ' H5 env' σ5 ∧ PostS X.K W D μ' H5 (forLoopX t tm mb (t.items.drop (i + 1)) env' ah') ∧ i + 1 + (n - 1) = t.items.length := fun x5 s5 r5 p5 =>
          ⟨_, _, _, (ex.trans x23).trans x5, s5, r5, PostS.ext (x23.trans x5) p5, by omega⟩
        cases q : mb p.1 p.2 with
        | nx e5 a5 => rw [q] at po; exact fun μ5 σ5 H5 x5 s5 r5 => fin x5 s5 r5 po
        | ct e5 a5 => rw [q] at po; exact fun μ5 σ5 H5 x5 s5 r5 => fin x5 s5 r5 po
        | bk e5 a5 => rw [q] at po; exact fun μ5 σ5 H5 x5 s5 r5 => po μ5 σ5 H5 (x23.trans x5) s5 r5
        | rt d5 a5 => rw [q] at po; exact fun μ5 v5 H5 x5 s5 r5 => po μ5 v5 H5 (x23.trans x5) s5 r5
        | exn c5 f5 e5 a5 => rw [q] at po; exact fun μ5 σ5 H5 od x5 s5 r5 z5 => po μ5 σ5 H5 od (x23.trans x5) s5 r5 z5
        | stuck => rw [q] at po; exact po
      · exact po.elim
    · exact po.elim
  · have e0 : t.items.drop i = [] := List.drop_eq_nil_of_le (by omega)
    rw [e0] at po
    unfold forLoopX at po
    split at po
    · rename_i okb
      exact .inl ⟨(ok1 i μ' H' ah' ex S okb).1 (by omega), post_next po S er⟩
    · exact po.elim
end
end HA

/-! HA22: max(xs, default=d). -/
namespace HA
open PySem PySem.Spec PyProof.Rows L2
theorem reads_ints {h : Heap} : ∀ {ns : List Int} {us : List Value}, Vals (ns.map V.int) us → ∃ as, ReadsAll h us (ns.map PyData.int) as
  | [], us, r => by cases r; exact ⟨_, .nil⟩
  | n :: ns, us, r => by
    cases r with
    | cons h1 h2 =>
      obtain ⟨t, rfl⟩ := h1
      obtain ⟨as, q⟩ := reads_ints (h := h) h2
      exact ⟨_, .cons (.int n t) q⟩
theorem depth0 : ∀ ns : List Int, PyData.depthAll (ns.map PyData.int) = 0
  | [] => rfl
  | n :: ns => by simp [PyData.depthAll, PyData.depth, depth0 ns]
def maxOf : List Int → Int → Int
  | [], d => d
  | n :: ns, _ => ns.foldl max n
theorem call_maxD {X : Cx} (hc : X.calm = true) (hu : X.A.units + 64 < cLine) : CallRK X (.builtin "max") ["default"] (fun vs zs H Q => ∃ a ns d, vs = [.ref a] ∧ zs = [.int d] ∧ SqL X.K H a (ns.map V.int) ∧ Q (.int (maxOf ns d)) H) := by
  intro pins s σ H xs zs us ws Q I r1 r2 ⟨a, ns, d, e1, e2, q, hq⟩
  subst e1; subst e2
  obtain ⟨u, rfl, ru⟩ := vals1 r1
  obtain ⟨u2, rfl, t2, rfl⟩ := vals1 r2
  cases ru
  obtain ⟨its, rv, p', hz⟩ := I.list q
  obtain ⟨as, ra⟩ := reads_ints (h := s.heap) rv
  have al : PySem.W.AlikeAll (ns.map PyData.int) := ⟨fun x hx y hy => by
    obtain ⟨i, _, rfl⟩ := List.mem_map.mp hx
    obtain ⟨j, _, rfl⟩ := List.mem_map.mp hy
    rfl, fun x hx z => by
    obtain ⟨i, _, rfl⟩ := List.mem_map.mp hx
    cases z⟩
  have dz : PyData.depthAll (ns.map PyData.int) = 0 := depth0 ns
  refine PySem.W.max_list_default (vs := its.toArray) (I.ok.hd hc) p'.isList (by simpa using ra) al (by rw [dz]; omega) (fun e h' tk k => ?_) fun y ys i v h' tk bs e hv rd k => ?_
  · have : ns = [] := by simpa using e
    subst this
    exact ⟨.int d, H, I.kept (t' := tk) k, ⟨t2, rfl⟩, hq⟩
  · cases ns with
    | nil => cases e
    | cons n ns =>
      cases e
      rw [PySem.W.maxD_ints] at rd
      cases rd
      exact ⟨.int (ns.foldl max n), H, I.kept (t' := tk) k, ⟨_, rfl⟩, hq⟩
def oMaxD (xs zs : List D) (ah : AH) : Res D := match xs, zs with
  | [.ref n], [.int k] => match listAt ah n with
    | some ds => match optAll dInt ds with
      | some ns => .ok (.int (maxOf ns k)) ah
      | none => .stuck
    | none => .stuck
  | _, _ => .stuck
theorem pd_maxD {X : Cx} {W : WX} {k : Nat} {e d : Expr} {m md : EM D} {p pos kpos : Pos} (hr : Rm k X.A) (hc : X.calm = true) (hg : Gl X "max") (hm : X.mg "max" = none) (he : PD X W e m) (hd : PD X W d md)
    (h1 : starEach [e] X.env = (false, eval e X.env) :: starEach [] X.env := by rfl) (h2 : backTo pos (starEach [e] X.env) = (false, eval e X.env) :: backTo pos (starEach [] X.env) := by rfl) (hpl : (backTo pos (starEach [e] X.env)).any (·.1) = false := by rfl)
    (hall : (backToKw pos (keywordEach [⟨some "default", d, kpos⟩] X.env)).all (·.1.isSome) = true := by rfl) (hnone : (backToKw pos (keywordEach [⟨some "default", d, kpos⟩] X.env)).any (·.1.isNone) = false := by rfl) (hks : (backToKw pos (keywordEach [⟨some "default", d, kpos⟩] X.env)).filterMap (·.1) = (["default"] : List Str) := by rfl) :
    PD X W (.Call (.Name "max" p) [e] [⟨some "default", d, kpos⟩] pos) (e2 (aCons m aNil) (aCons md aNil) oMaxD) := by
  refine PE.weak (pe_callBK (call_maxD hc (by have := hr.u65; omega)) hg hm (show bootBuiltins ("max" : Str) = some (.builtin "max") by decide +kernel) (pas_cons he pas_nil h1) (pks_cons hd pks_nil).pk (by decide) (by decide) h2 hpl hall hnone hks) fun σ H Q ⟨μ, env, ah, hE, S, hp⟩ => ?_
  refine ⟨μ, env, ah, hE, S, hp.bind fun xs ah1 μ1 vs H1 e1 s1 r1 p1 => ?_⟩
  refine tG_next hE e1 s1 (p1.bind fun zs ah2 μ2 ws H2 e2 s2 r2 p2 => ?_)
  unfold oMaxD at p2
  split at p2
  · rename_i n k
    split at p2
    · rename_i ds q1
      split at p2
      · rename_i ns q2
        obtain rfl := ints_of q2
        obtain ⟨v, rfl, rv⟩ := reps1 (show Reps X.K μ1 H1 [.ref n] vs from r1)
        obtain ⟨w, rfl, rw'⟩ := reps1 (show Reps X.K μ2 H2 [.int k] ws from r2)
        obtain ⟨a, ea, rfl⟩ := d_ref (rv.ext e2)
        obtain ⟨b, vs, eb, sq, rr⟩ := s2.list q1
        rw [ea] at eb; cases eb
        rw [d_int rw']
        obtain rfl := Reps.ints rr
        exact ⟨a, ns, k, rfl, rfl, sq, Post.ok1 (R := RD X.K) p2 s2 r_int⟩
      · exact p2.elim
    · exact p2.elim
  · exact p2.elim
end HA

/-! HA23: a tuple times 1. -/
namespace HA
open PySem PySem.Spec PyProof.Rows L2
theorem tuple_mul1 (l : Addr) (items : Array Value) (n : Nat) (dd : Option Addr) (sl : Array (Option Value)) (u : Tok) :
    Meets (Builtin.«tuple.__mul__» ⟨[.ref l, .int 1 u], []⟩) (fun _ R s => s.heap.get? l = some { cls := .type "tuple", dict := dd, data := .seq items n, slots := sl } ∧ R (.ok (.ret (Value.ref l))) s) :=
  .of_wp fun prog w A R s h => by
    obtain ⟨hp, g, d, tk, os⟩ := s
    obtain ⟨hl, h⟩ := h
    have f1 := AutoSeq1.idx_int
    have c1 : (items.isEmpty || (1 : Int) == 1) = true := by simp
    wp_walk using wpAny_loadPart' hl
    exact ⟨_, rfl, h⟩
section
variable {X : Cx}
theorem op_rep1 : OpR X (binaryOp .Mult) (fun x y H Q => ∃ l xs, x = .ref l ∧ y = .int 1 ∧ SqT X.K H l xs ∧ Q (.ref l) H) := by
  intro pins s σ H x y v u Q I rx ry ⟨l, xs, e1, e2, hT, q⟩
  subst e1; subst e2
  cases rx
  obtain ⟨t, rfl⟩ := ry
  obtain ⟨its, r, ⟨⟨cls, dd, data, sl⟩, ho, hc, n, hd⟩, hs⟩ := I.tuple hT
  simp only at hc hd
  subst hc hd
  refine wpAny_binaryOp_repeat_ref (T := "tuple") (U := "int") (by decide) ⟨_, ho, rfl⟩ (fun s' => typeIs_int s' 1 t) noFill_tuple_mul F.fills_int_mul F.slot_int_rmul repeat_tuple F.slot_int_index.lookup
    (call_meets F.slot_int_rmul (typeIs_int s 1 t) F.entry_int_rmul (F.args_int_rmul_2 _ _) (int_rmul_tuple 1 t l its.toArray n dd sl) ⟨ho, rfl, ⟨_, ho, rfl⟩, call_meets F.slot_tuple_mul ⟨_, ho, rfl⟩ F.entry_tuple_mul (F.args_tuple_mul_2 _ _) (tuple_mul1 l its.toArray n dd sl t) ⟨ho, ?_⟩⟩)
  exact ⟨.ref l, H, I, rfl, q⟩
/-- * of numbers, of a tuple and a number from 1 on -/
def oMulT (x y : D) (ah : AH) : Res D := match x, y with
  | .tup xs, .int 1 => .ok (.tup xs) ah
  | x, y => oMul x y ah
theorem od_mulT : OpD X (RD X.K) (binaryOp .Mult) oMulT := fun Wx => by
  refine OpR.imp (OpR.or (od_mul Wx) op_rep1) fun x y H Q ⟨μ, ah, dx, dy, S, rx, ry, hp⟩ => ?_
  unfold oMulT at hp
  split at hp
  · obtain ⟨a, vs, rfl, q, r⟩ := d_tup rx
    rw [d_int ry]
    exact .inr ⟨a, vs, rfl, rfl, q, hp.ok1 S (r_tup q r)⟩
  · exact .inl ⟨μ, ah, _, _, S, rx, ry, hp⟩
end
end HA

/-! HA24: comprehensions of two clauses: the list made is an object of ours from the start. -/
namespace HA
open PySem PySem.Spec PyProof.Rows L2
def putAt (n : Nat) (y : D) (ah : AH) : Option AH := match ah[n]? with
  | some (.lst acc) => if acc.length < line then some (ah.set n (.lst (acc ++ [y]))) else none
  | _ => none
def lcH (n : Nat) (t : Itm) (tm : TM) (test : EM Bool) (elt : EM D) (vs : List Nat) (env : HA.Env) : List D → AH → Option AH
  | [], ah => if t.okIn ah = true then some ah else none
  | d :: ds, ah => if t.okIn ah = true then match tm d (wipeE env vs) ah with
    | some env1 => match test env1 ah with
      | .ok true ah1 => match elt env1 ah1 with
        | .ok y ah2 => match putAt n y ah2 with
          | some ah3 => lcH n t tm test elt vs env ds ah3
          | none => none
        | _ => none
      | .ok false ah1 => lcH n t tm test elt vs env ds ah1
      | _ => none
    | none => none else none
def lcH2 (n : Nat) (t : Itm) (tm : TM) (test : EM Bool) (mi1 : EM Itm) (tm1 : TM) (test1 : EM Bool) (elt : EM D) (vs vs1 : List Nat) (env : HA.Env) : List D → AH → Option AH
  | [], ah => if t.okIn ah = true then some ah else none
  | d :: ds, ah => if t.okIn ah = true then match tm d (wipeE env vs) ah with
    | some env1 => match test env1 ah with
      | .ok true ah1 => match mi1 env1 ah1 with
        | .ok t1 ah2 => match lcH n t1 tm1 test1 elt vs1 env1 t1.items ah2 with
          | some ah3 => lcH2 n t tm test mi1 tm1 test1 elt vs vs1 env ds ah3
          | none => none
        | _ => none
      | .ok false ah1 => lcH2 n t tm test mi1 tm1 test1 elt vs vs1 env ds ah1
      | _ => none
    | none => none else none
def eLc2 (mi : EM Itm) (tm : TM) (test : EM Bool) (mi1 : EM Itm) (tm1 : TM) (test1 : EM Bool) (elt : EM D) (vs vs1 : List Nat) : EM D := fun env ah => (mi env ah).bind fun t ah1 => match lcH2 ah1.length t tm test mi1 tm1 test1 elt vs vs1 env t.items (ah1 ++ [.lst []]) with
  | some ah2 => .ok (.ref ah1.length) ah2
  | none => .stuck
section
variable {X : Cx} {W : WX}
theorem putAt_run {K : PySem.W.Frag} {n : Nat} {y : D} {v : V} {ah ah' : AH} {μ : List Addr} {H : Hp} {p : Addr} (S : Sim K μ H ah) (ep : μ[n]? = some p) (ry : Rep K μ H y v) (e : putAt n y ah = some ah') :
    ∃ avs, H p = some (.lst avs) ∧ avs.length < sizeLine ∧ Ext K μ H μ (upd H p (.lst (avs ++ [v]))) ∧ Sim K μ (upd H p (.lst (avs ++ [v]))) ah' := by
  unfold putAt at e
  split at e
  · rename_i acc q
    split at e
    · rename_i hl
      cases e
      obtain ⟨avs, h1, r⟩ := S.ok n p _ ep q
      have hn : n ≠ 0 := fun z => by
        have := (S.ro0 n _ q).mpr z
        cases this
      have mu : Mut (H p) := (S.ok n p _ ep q).there rfl
      refine ⟨avs, h1, Nat.lt_of_lt_of_le (by rw [← r.length]; exact hl) (line_le (Nat.le_refl _)), Ext.put ep hn mu, ?_⟩
      exact S.put ep q rfl rfl fun ht => ⟨avs ++ [v], upd_same, Reps.mono (List.prefix_refl _) ht _ _ (r.append (Reps.cons ry Reps.nil))⟩
    · cases e
  · cases e
theorem lc2_step {σ : L2.St} {H : Hp} {Q : VK} {mi mi1 : EM Itm} {ts ts1 vs vs1 : List Nat} {tm tm1 : TM} {mt mt1 : EM Bool} {me : EM D} (hts : ∀ j ∈ ts, j ∈ vs) (hts1 : ∀ j ∈ ts1, j ∈ vs1) (h : tG X.K (RD X.K) W (eLc2 mi tm mt mi1 tm1 mt1 me vs vs1) σ H Q) :
    tLc2 (tG X.K (RI X.K) W mi) (tGt X.K ts tm) (tG X.K RB W0 mt) (tG X.K (RI X.K) W0 mi1) (tGt X.K ts1 tm1) (tG X.K RB W0 mt1) (tG X.K (RD X.K) W0 me) vs vs1 σ H Q := by
  obtain ⟨μ, env, ah, he, hs, hp⟩ := h
  refine ⟨μ, env, ah, he, hs, hp.bind0 fun t ah1 μ1 J H1 e1 s1 r1 p1 => ?_⟩
  have ok1 : ItOk X.K μ1 H1 t J := r1
  intro p np
  have p1 := Post.ext e1 p1
  have h0 : H p = none := e1.there p np
  cases qL : lcH2 ah1.length t tm mt mi1 tm1 mt1 me vs vs1 env t.items (ah1 ++ [.lst []]) with
  | none => rw [qL] at p1; exact p1.elim
  | some ah2 =>
  rw [qL] at p1
  dsimp only at p1
  have sN : Sim X.K (μ1 ++ [p]) (upd H1 p (.lst [])) (ah1 ++ [.lst []]) := s1.new np rfl ⟨[], upd_same, Reps.nil⟩
  have eN : Ext X.K μ1 H1 (μ1 ++ [p]) (upd H1 p (.lst [])) := Ext.ours np s1.mpos
  have pN : (μ1 ++ [p])[ah1.length]? = some p := by rw [← s1.len]; simp
  refine ⟨fun i n H' => ∃ μ' ah', Ext X.K μ1 H1 μ' H' ∧ Sim X.K μ' H' ah' ∧ μ'[ah1.length]? = some p ∧ lcH2 ah1.length t tm mt mi1 tm1 mt1 me vs vs1 env (t.items.drop i) ah' = some ah2 ∧ i + n = t.items.length,
    ⟨t.items.length, μ1 ++ [p], ah1 ++ [.lst []], eN, sN, pN, by rw [List.drop_zero]; exact qL, by omega⟩, ?_⟩
  rintro i n H' ⟨μ', ah', ex, S, hm, po, hn⟩
  by_cases hi : i < t.items.length
  · have ed : t.items[i]? = some t.items[i] := List.getElem?_eq_getElem hi
    rw [List.drop_eq_getElem_cons hi] at po
    unfold lcH2 at po
    split at po
    · rename_i okb
      obtain ⟨go, yl⟩ := (ok1 i μ' H' ah' ex S okb).2 _ ed
      refine .inr ⟨go, fun H2 => ∃ μ' ah', Ext X.K μ1 H1 μ' H2 ∧ Sim X.K μ' H2 ah' ∧ μ'[ah1.length]? = some p ∧ lcH2 ah1.length t tm mt mi1 tm1 mt1 me vs vs1 env (t.items.drop (i + 1)) ah' = some ah2 ∧ i + 1 + (n - 1) = t.items.length, fun H2 h => ⟨n - 1, by omega, h⟩, fun x H'' y => ?_⟩
      obtain ⟨ex2, S2, rx⟩ := yl x H'' y
      split at po
      · rename_i env1 et
        refine ⟨μ', wipeE env vs, ah', _, env1, (wipe_rel (he.ext (e1.trans (ex.trans ex2))) vs), S2, rx, et, fun σ2 he2 b2 => ?_⟩
        refine ⟨by rw [wipe_but b2 hts, wipe_wipe], ?_⟩
        cases qt : mt env1 ah' with
        | ok b ah3 =>
          rw [qt] at po
          cases b with
          | false =>
            refine ⟨μ', env1, ah', he2, S2, Post.only qt fun μ3 b3 H3 x3 s3 r3 => ?_⟩
            cases (show false = b3 from r3)
            rw [if_neg Bool.false_ne_true]
            exact ⟨μ3, ah3, (ex.trans ex2).trans x3, s3, pre_get x3.pre hm, po, by omega⟩
          | true =>
            refine ⟨μ', env1, ah', he2, S2, Post.only qt fun μ3 b3 H3 x3 s3 r3 => ?_⟩
            cases (show true = b3 from r3)
            rw [if_pos rfl]
            dsimp only at po
            cases qm : mi1 env1 ah3 with
            | exn c fs a3 => rw [qm] at po; cases po
            | stuck => rw [qm] at po; cases po
            | ok t1 ah4 =>
              rw [qm] at po
              dsimp only at po
              refine ⟨μ3, env1, ah3, he2.ext x3, s3, Post.only qm fun μ4 J1 H4 x4 s4 r4 => ?_⟩
              have ok4 : ItOk X.K μ4 H4 t1 J1 := r4
              have ex4 := ((ex.trans ex2).trans x3).trans x4
              have hm4 : μ4[ah1.length]? = some p := pre_get x4.pre (pre_get x3.pre hm)
              cases ql : lcH ah1.length t1 tm1 mt1 me vs1 env1 t1.items ah4 with
              | none => rw [ql] at po; cases po
              | some ah5 =>
                rw [ql] at po
                dsimp only at po
                refine ⟨fun j k H5 => ∃ μ5 ahI, Ext X.K μ4 H4 μ5 H5 ∧ Sim X.K μ5 H5 ahI ∧ μ5[ah1.length]? = some p ∧ lcH ah1.length t1 tm1 mt1 me vs1 env1 (t1.items.drop j) ahI = some ah5 ∧ j + k = t1.items.length,
                  ⟨t1.items.length, μ4, ah4, Ext.refl, s4, hm4, by rw [List.drop_zero]; exact ql, by omega⟩, ?_⟩
                rintro j k H5 ⟨μ5, ahI, exI, SI, hmI, qI, hk⟩
                by_cases hj : j < t1.items.length
                · have ed1 : t1.items[j]? = some t1.items[j] := List.getElem?_eq_getElem hj
                  rw [List.drop_eq_getElem_cons hj] at qI
                  unfold lcH at qI
                  split at qI
                  · rename_i okj
                    obtain ⟨go1, yl1⟩ := (ok4 j μ5 H5 ahI exI SI okj).2 _ ed1
                    refine .inr ⟨go1, fun H6 => ∃ μ5 ahI, Ext X.K μ4 H4 μ5 H6 ∧ Sim X.K μ5 H6 ahI ∧ μ5[ah1.length]? = some p ∧ lcH ah1.length t1 tm1 mt1 me vs1 env1 (t1.items.drop (j + 1)) ahI = some ah5 ∧ j + 1 + (k - 1) = t1.items.length, fun H6 h => ⟨k - 1, by omega, h⟩, fun x1 H6 y1 => ?_⟩
                    obtain ⟨ex6, S6, rx6⟩ := yl1 x1 H6 y1
                    split at qI
                    · rename_i env2 et2
                      refine ⟨μ5, wipeE env1 vs1, ahI, _, env2, (wipe_rel (he2.ext (x3.trans (x4.trans (exI.trans ex6)))) vs1), S6, rx6, et2, fun σ3 he3 b3 => ?_⟩
                      refine ⟨by rw [wipe_but b3 hts1, wipe_wipe], ?_⟩
                      cases qt1 : mt1 env2 ahI with
                      | ok b ah6 =>
                        rw [qt1] at qI
                        cases b with
                        | false =>
                          refine ⟨μ5, env2, ahI, he3, S6, Post.only qt1 fun μ7 b7 H7 x7 s7 r7 => ?_⟩
                          cases (show false = b7 from r7)
                          rw [if_neg Bool.false_ne_true]
                          exact ⟨μ7, ah6, (exI.trans ex6).trans x7, s7, pre_get x7.pre hmI, qI, by omega⟩
                        | true =>
                          refine ⟨μ5, env2, ahI, he3, S6, Post.only qt1 fun μ7 b7 H7 x7 s7 r7 => ?_⟩
                          cases (show true = b7 from r7)
                          rw [if_pos rfl]
                          dsimp only at qI
                          cases qe : me env2 ah6 with
                          | exn c fs a3 => rw [qe] at qI; cases qI
                          | stuck => rw [qe] at qI; cases qI
                          | ok y ah7 =>
                            rw [qe] at qI
                            dsimp only at qI
                            cases qp : putAt ah1.length y ah7 with
                            | none => rw [qp] at qI; cases qI
                            | some ah8 =>
                              rw [qp] at qI
                              refine ⟨μ7, env2, ah6, he3.ext x7, s7, Post.only qe fun μ8 y8 H8 x8 s8 r8 => ?_⟩
                              have hm8 : μ8[ah1.length]? = some p := pre_get x8.pre (pre_get x7.pre hmI)
                              obtain ⟨avs, a1, a2, a3, a4⟩ := putAt_run s8 hm8 (show Rep X.K μ8 H8 y y8 from r8) qp
                              exact ⟨avs, a1, a2, μ8, ah8, (((exI.trans ex6).trans x7).trans x8).trans a3, a4, hm8, qI, by omega⟩
                      | exn c fs a3 => rw [qt1] at qI; cases qI
                      | stuck => rw [qt1] at qI; cases qI
                    · cases qI
                  · cases qI
                · have ez : t1.items.drop j = [] := List.drop_eq_nil_of_le (by omega)
                  rw [ez] at qI
                  unfold lcH at qI
                  split at qI
                  · rename_i okj
                    cases qI
                    exact .inl ⟨(ok4 j μ5 H5 _ exI SI okj).1 (by omega), μ5, _, ex4.trans exI, SI, hmI, po, by omega⟩
                  · cases qI
        | exn c fs a3 => rw [qt] at po; cases po
        | stuck => rw [qt] at po; cases po
      · cases po
    · cases po
  · have ez : t.items.drop i = [] := List.drop_eq_nil_of_le (by omega)
    rw [ez] at po
    unfold lcH2 at po
    split at po
    · rename_i okb
      cases po
      refine .inl ⟨(ok1 i μ' H' _ ex S okb).1 (by omega), ?_⟩
      exact p1 μ' _ H' ex S (show Rep X.K μ' H' (.ref ah1.length) (.ref p) by simp only [Rep]; exact ⟨p, hm, rfl⟩)
    · cases po
variable {elt tg iter tg1 iter1 : Expr} {ifs ifs1 : List Expr} {scope : Scope} {own : List (Str × Nat)} {vs vs1 : List Nat} {pos : Pos} {mi mi1 : EM Itm} {tm tm1 : TM} {ts ts1 : List Nat} {mt mt1 : EM Bool} {me : EM D}
theorem pd_lc2 (hc : X.calm = true) (hN : X.N.Nodup) (hi : PF X W tg iter mi) (ok : BlkOk X.N X.env.scope scope own) (hv : own.map (·.2) = vs) (hts : ∀ j ∈ ts, j ∈ own.map (·.2)) (hv1 : ∀ i ∈ vs1, i ∈ own.map (·.2)) (hts1 : ∀ j ∈ ts1, j ∈ vs1)
    (hg : ∀ (s : Shared) (H : Hp) (C : Addr) (cl : List (Str × Addr)) (fp : List Addr), PT1 (X.blk s H scope (compEnvC scope cl C X.env) fp) tg ts tm) (ht : ∀ (s : Shared) (H : Hp) (C : Addr) (cl : List (Str × Addr)) (fp : List Addr), PTsD (X.blk s H scope (compEnvC scope cl C X.env) fp) W0 ifs mt)
    (hi1 : ∀ (s : Shared) (H : Hp) (C : Addr) (cl : List (Str × Addr)) (fp : List Addr), PF (X.blk s H scope (compEnvC scope cl C X.env) fp) W0 tg1 iter1 mi1)
    (hg1 : ∀ (s : Shared) (H : Hp) (C : Addr) (cl : List (Str × Addr)) (fp : List Addr), PT1 (X.blk s H scope (compEnvC scope cl C X.env) fp) tg1 ts1 tm1) (ht1 : ∀ (s : Shared) (H : Hp) (C : Addr) (cl : List (Str × Addr)) (fp : List Addr), PTsD (X.blk s H scope (compEnvC scope cl C X.env) fp) W0 ifs1 mt1)
    (he : ∀ (s : Shared) (H : Hp) (C : Addr) (cl : List (Str × Addr)) (fp : List Addr), PD (X.blk s H scope (compEnvC scope cl C X.env) fp) W0 elt me) (hs : ∀ x, foldedSetIterable iter X.env x = pure x := by intro _; rfl) (hs1 : ∀ env x, foldedSetIterable iter1 env x = pure x := by intro _ _; rfl) :
    PD X W (.ListComp elt [⟨tg, iter, ifs, 0⟩, ⟨tg1, iter1, ifs1, 0⟩] scope pos) (eLc2 mi tm mt mi1 tm1 mt1 me vs vs1) := by
  subst hv
  exact PE.weak (pe_lc2 (g := tGt X.K ts tm) (tt := tG X.K RB W0 mt) (wi1 := tG X.K (RI X.K) W0 mi1) (g1 := tGt X.K ts1 tm1) (tt1 := tG X.K RB W0 mt1) (te := tG X.K (RD X.K) W0 me) hc hN hi ok hv1 hg ht hi1 hg1 ht1 he hs hs1) fun _ _ _ q => lc2_step hts hts1 q
/-- name = [.. for .. for ..] -/
theorem pz_setLc2 {i : Nat} {y : Str} {py spos : Pos} (hc : X.calm = true) (hN : X.N.Nodup) (hy : X.N[i]? = some y) (hyl : X.env.scope.names.lookup y = some .local)
    (hsw : swapsWith (.ListComp elt [⟨tg, iter, ifs, 0⟩, ⟨tg1, iter1, ifs1, 0⟩] scope pos) (some (.Name y py)) spos.line X.env = pure true)
    (hi : PF X W tg iter mi) (ok : BlkOk X.N X.env.scope scope own) (hv : own.map (·.2) = vs) (hts : ∀ j ∈ ts, j ∈ own.map (·.2)) (hv1 : ∀ i ∈ vs1, i ∈ own.map (·.2)) (hts1 : ∀ j ∈ ts1, j ∈ vs1)
    (hg : ∀ (s : Shared) (H : Hp) (C : Addr) (cl : List (Str × Addr)) (fp : List Addr), PT1 (X.blk s H scope (compEnvC scope cl C X.env) fp) tg ts tm) (ht : ∀ (s : Shared) (H : Hp) (C : Addr) (cl : List (Str × Addr)) (fp : List Addr), PTsD (X.blk s H scope (compEnvC scope cl C X.env) fp) W0 ifs mt)
    (hi1 : ∀ (s : Shared) (H : Hp) (C : Addr) (cl : List (Str × Addr)) (fp : List Addr), PF (X.blk s H scope (compEnvC scope cl C X.env) fp) W0 tg1 iter1 mi1)
    (hg1 : ∀ (s : Shared) (H : Hp) (C : Addr) (cl : List (Str × Addr)) (fp : List Addr), PT1 (X.blk s H scope (compEnvC scope cl C X.env) fp) tg1 ts1 tm1) (ht1 : ∀ (s : Shared) (H : Hp) (C : Addr) (cl : List (Str × Addr)) (fp : List Addr), PTsD (X.blk s H scope (compEnvC scope cl C X.env) fp) W0 ifs1 mt1)
    (he : ∀ (s : Shared) (H : Hp) (C : Addr) (cl : List (Str × Addr)) (fp : List Addr), PD (X.blk s H scope (compEnvC scope cl C X.env) fp) W0 elt me) (hs : ∀ x, foldedSetIterable iter X.env x = pure x := by intro _; rfl) (hs1 : ∀ env x, foldedSetIterable iter1 env x = pure x := by intro _ _; rfl) :
    PZ X W (.Assign [.Name y py] (.ListComp elt [⟨tg, iter, ifs, 0⟩, ⟨tg1, iter1, ifs1, 0⟩] scope pos) spos) (sAsg (eLc2 mi tm mt mi1 tm1 mt1 me vs vs1) (gSet i)) := by
  subst hv
  refine PS.weak (ps_setLc2 (g := tGt X.K ts tm) (tt := tG X.K RB W0 mt) (wi1 := tG X.K (RI X.K) W0 mi1) (g1 := tGt X.K ts1 tm1) (tt1 := tG X.K RB W0 mt1) (te := tG X.K (RD X.K) W0 me) hc hN hy hyl hsw hi ok hv1 hg ht hi1 hg1 ht1 he hs hs1) fun D σ H q => ?_
  obtain ⟨μ, env, ah, he, hs, hp⟩ := q
  refine lc2_step hts hts1 ?_
  refine ⟨μ, env, ah, he, hs, ?_⟩
  unfold sAsg at hp
  cases q : (eLc2 mi tm mt mi1 tm1 mt1 me (own.map (·.2)) vs1) env ah with
  | ok d ah1 =>
    rw [q] at hp
    intro μ1 x H1 e1 s1 r1
    refine hp μ1 _ H1 e1 s1 ?_
    exact EnvRel.set (he.ext e1) r1 i
  | exn c fs ah1 => rw [q] at hp; exact fun μ' H' od e' s' x => hp μ' σ H' od e' s' (he.ext e') x
  | stuck => rw [q] at hp; exact hp
end
end HA

/-! HA25: zip(.., .., strict=True), at the library's level: one turn, the end, how it is made. -/
namespace HZ
open PySem
open PySem.Sem (wp)
/-- a zip that is strict -/
abbrev ZipRec (h : Heap) (z TI TO : Addr) (f0 : Value) : Prop := h.get? z = some { cls := .type "zip", dict := none, data := .fields #[f0, .bool false, .bool true, .ref TI, .ref TO], slots := #[] }
section
variable {prog : Program} {w : World} {A : Around} {E : Value → Shared → Prop} {s : Shared} {z TI TO i1 i2 it : Addr} {fp fp1 fp2 : List Addr} {n n1 n2 i : Nat} {P P1 P2 : Nat → Value → Prop} {St St1 St2 : Nat → Heap → Prop} {a1 a2 : Value}
theorem drawE_item {Q : Option Value → Shared → Prop} (D : Draws prog w A it fp n P St) (hi : i < n) (st : St i s.heap)
    (hQ : ∀ x h' tk, P i x → St (i + 1) h' → Heap.SameBut it s.heap h' → Q (some x) { s with heap := h', toks := tk }) : wpAny (model prog w) A (Builtin.SmallTypes.nextOrEnd (.ref it)) Q E s := by
  unfold Builtin.SmallTypes.nextOrEnd
  exact wpAny_bind (wpAny_attempt (D.item i s _ _ hi st fun x h' tk a b c => wpAny_pure (hQ x h' tk a b c)))
theorem drawE_end {Q : Option Value → Shared → Prop} (D : Draws prog w A it fp n P St) (st : St n s.heap)
    (hQ : ∀ h', Heap.ExtBut it s.heap h' → Q none { s with heap := h' }) : wpAny (model prog w) A (Builtin.SmallTypes.nextOrEnd (.ref it)) Q E s := by
  unfold Builtin.SmallTypes.nextOrEnd
  refine wpAny_bind (wpAny_attempt (D.done s _ _ st fun h' e hk he => ?_))
  obtain ⟨o, ho, hc⟩ := he
  exact wpAny_bind (wpAny_isInstance (T := "StopIteration") (b := true) ⟨o, ho, hc⟩ isSubtype_stop (wpAny_pure (hQ h' hk)))
/-- one part: drawn, put into the pair that is kept -/
theorem part {Q : Unit → Shared → Prop} {T : Addr} {k : Nat} {x : Value} (hT : IsTupOf2 s.heap T a1 a2)
    (h : ∀ h', h'.get? T = some { cls := .type "tuple", data := .seq ((#[a1, a2] : Array Value).setIfInBounds k x) } → Heap.SameBut T s.heap h' → Q () { s with heap := h' }) :
    wpAny (model prog w) A (updateSeq T (·.setIfInBounds k x)) Q E s := updateSeq_IsTupOf2 hT h
theorem zipS_item {Q : Value → Shared → Prop} (S : ZipSep2 z TI TO i1 i2 fp1 fp2) (D1 : Draws prog w A i1 fp1 n1 P1 St1) (D2 : Draws prog w A i2 fp2 n2 P2 St2)
    (hz : ZipRec s.heap z TI TO .none) (hI : IsTupOf2 s.heap TI (.ref i1) (.ref i2)) (hO : IsTupOf2 s.heap TO a1 a2) (t1 : St1 i s.heap) (t2 : St2 i s.heap) (l1 : i < n1) (l2 : i < n2)
    (hQ : ∀ x1 x2 h' tk, P1 i x1 → P2 i x2 → ZipRec h' z TI TO (rawInt s.heap.objs.size) → IsTupOf2 h' TO x1 x2 → St1 (i + 1) h' → St2 (i + 1) h' → IsTupOf2 h' s.heap.objs.size x1 x2 →
      (∀ c o, c ≠ z → c ≠ TO → c ≠ i1 → c ≠ i2 → s.heap.get? c = some o → h'.get? c = some o) → Q (.ref s.heap.objs.size) { s with heap := h', toks := tk }) :
    wpAny (model prog w) A (Builtin.«zip.__next__» ⟨[.ref z], []⟩) (fun fin s' => ∃ v, fin = .done (.ret v) ∧ Q v s') E s := by
  obtain ⟨h0, gs, dr, tk0, os⟩ := s
  show wpAny _ _ (field (.ref z) 2 >>= _) _ _ _
  refine wpAny_bind (wpAny_field hz rfl (x := .bool true) rfl ?_)
  show wpAny _ _ (field (.ref z) 3 >>= _) _ _ _
  refine wpAny_bind (wpAny_field hz rfl (x := .ref TI) rfl (wpAny_bind (wpAny_seqItems hI rfl ?_)))
  show wpAny _ _ (Builtin.SmallTypes.ownedTupleIsFree (.ref z) >>= _) _ _ _
  refine wpAny_bind ?_
  unfold Builtin.SmallTypes.ownedTupleIsFree
  refine wpAny_bind (wpAny_field hz rfl (x := .none) rfl (wpAny_pure ?_))
  rw [if_pos rfl]
  refine wpAny_bind (wpAny_rule (wpAny_bind (wpAny_field hz rfl (x := .ref TO) rfl ?_)))
  refine wpAny_bind (wpAny_setField_rec hz (by simp) fun u0 z0 s0 => wpAny_bind ?_)
  have z0 : ZipRec u0 z TI TO .ellipsis := z0
  have s0 : Heap.SameBut z h0 u0 := s0
  simp only [List.zipIdx_cons, List.zipIdx_nil, List.forIn_cons, List.forIn_nil]
  refine wpAny_bind (wpAny_bind (wpAny_onRaise ?_))
  show wpAny _ _ (Builtin.SmallTypes.nextOrEnd (.ref i1)) _ _ ⟨u0, gs, dr, tk0, os⟩
  refine drawE_item D1 l1 (D1.over t1 s0 S.zf1) fun x1 u1 k1 y1 q1 s1 => ?_
  have s1 : Heap.SameBut i1 u0 u1 := s1
  have o1 : IsTupOf2 u1 TO a1 a2 := s1.extBut _ _ S.Ti1 (s0.extBut _ _ S.TOz hO)
  refine wpAny_bind (wpAny_seqItems (s := ⟨u1, gs, dr, k1, os⟩) o1 rfl (wpAny_bind (part (s := ⟨u1, gs, dr, k1, os⟩) o1 fun u2 o2 s2 => wpAny_bind (wpAny_letGo (wpAny_pure ?_)))))
  have o2 : IsTupOf2 u2 TO x1 a2 := o2
  have s2 : Heap.SameBut TO u1 u2 := s2
  refine wpAny_bind (wpAny_bind (wpAny_onRaise ?_))
  show wpAny _ _ (Builtin.SmallTypes.nextOrEnd (.ref i2)) _ _ ⟨u2, gs, dr, k1, os⟩
  refine drawE_item D2 l2 (D2.over (D2.over (D2.over t2 s0 S.zf2) s1 S.sep1_2) s2 S.Tf2) fun x2 u3 k2 y2 q2 s3 => ?_
  have s3 : Heap.SameBut i2 u2 u3 := s3
  have o3 : IsTupOf2 u3 TO x1 a2 := s3.extBut _ _ S.Ti2 o2
  refine wpAny_bind (wpAny_seqItems (s := ⟨u3, gs, dr, k2, os⟩) o3 rfl (wpAny_bind (part (s := ⟨u3, gs, dr, k2, os⟩) o3 fun u4 o4 s4 => wpAny_bind (wpAny_letGo (wpAny_pure (wpAny_pure ?_))))))
  have o4 : IsTupOf2 u4 TO x1 x2 := o4
  have s4 : Heap.SameBut TO u3 u4 := s4
  have z4 : ZipRec u4 z TI TO .ellipsis := s4.extBut _ _ S.TOz.symm (s3.extBut _ _ S.zi2 (s2.extBut _ _ S.TOz.symm (s1.extBut _ _ S.zi1 z0)))
  have kp : ∀ c o, c ≠ z → c ≠ TO → c ≠ i1 → c ≠ i2 → h0.get? c = some o → u4.get? c = some o := fun c o cz cT c1 c2 e => s4.extBut _ _ cT (s3.extBut _ _ c2 (s2.extBut _ _ cT (s1.extBut _ _ c1 (s0.extBut _ _ cz e))))
  have q1 : St1 (i + 1) u4 := D1.over (D1.over (D1.over q1 s2 S.Tf1) s3 S.sep2_1) s4 S.Tf1
  have q2 : St2 (i + 1) u4 := D2.over q2 s4 S.Tf2
  have sz : u4.objs.size = h0.objs.size := by rw [s4.1, s3.1, s2.1, s1.1, s0.1]
  have zl : z < u4.objs.size := Heap.lt_size z4
  refine wpAny_bind (wpAny_seqItems (s := ⟨u4, gs, dr, k2, os⟩) o4 rfl (wpAny_bind (wpAny_newTuple ?_)))
  show wpAny _ _ (Builtin.SmallTypes.ownedTupleHandOut (.ref z) (.ref u4.objs.size) >>= _) _ _ ⟨u4.push { cls := .type "tuple", data := .seq #[x1, x2] }, gs, dr, k2, os⟩
  refine wpAny_bind ?_
  unfold Builtin.SmallTypes.ownedTupleHandOut
  have z5 : ZipRec (u4.push { cls := .type "tuple", data := .seq #[x1, x2] }) z TI TO .ellipsis := Heap.get?_push_of_some _ z4
  refine wpAny_bind (wpAny_setField_rec z5 (by simp) fun u6 z6 s6 => ?_)
  have z6 : ZipRec u6 z TI TO (rawInt u4.objs.size) := z6
  refine wpAny_setField_rec z6 (by simp) fun u7 z7 s7 => wpAny_pure ⟨_, rfl, ?_⟩
  have z7 : ZipRec u7 z TI TO (rawInt u4.objs.size) := z7
  have s6 : Heap.SameBut z (u4.push { cls := .type "tuple", data := .seq #[x1, x2] }) u6 := s6
  have s7 : Heap.SameBut z u6 u7 := s7
  have up : ∀ c o, c ≠ z → u4.get? c = some o → u7.get? c = some o := fun c o c1 e => s7.extBut _ _ c1 (s6.extBut _ _ c1 (Heap.get?_push_of_some _ e))
  have nt : IsTupOf2 u7 u4.objs.size x1 x2 := s7.extBut _ _ (Nat.ne_of_gt zl) (s6.extBut _ _ (Nat.ne_of_gt zl) (Heap.get?_push_size _ rfl))
  rw [sz] at z7 nt
  show Q (.ref u4.objs.size) ⟨u7, gs, dr, k2, os⟩
  rw [sz]
  exact hQ x1 x2 u7 k2 y1 y2 z7 (up _ _ S.TOz o4) (D1.frame _ _ _ q1 fun b hb o e => up b o (fun q => S.zf1 (q ▸ hb)) e) (D2.frame _ _ _ q2 fun b hb o e => up b o (fun q => S.zf2 (q ▸ hb)) e) nt fun c o cz cT c1 c2 e => up c o cz (kp c o cz cT c1 c2 e)
theorem zipS_end {Q : Fin → Shared → Prop} (hh : A.handled = none) (S : ZipSep2 z TI TO i1 i2 fp1 fp2) (D1 : Draws prog w A i1 fp1 n P1 St1) (D2 : Draws prog w A i2 fp2 n P2 St2)
    (hz : ZipRec s.heap z TI TO .none) (hI : IsTupOf2 s.heap TI (.ref i1) (.ref i2)) (t1 : St1 n s.heap) (t2 : St2 n s.heap)
    (hE : ∀ h' tk e, (∀ c o, c ≠ z → c ≠ i1 → c ≠ i2 → s.heap.get? c = some o → h'.get? c = some o) → (∃ o, h'.get? e = some o ∧ o.cls = .type "StopIteration") → E (.ref e) { s with heap := h', toks := tk }) :
    wpAny (model prog w) A (Builtin.«zip.__next__» ⟨[.ref z], []⟩) Q E s := by
  obtain ⟨h0, gs, dr, tk0, os⟩ := s
  show wpAny _ _ (field (.ref z) 2 >>= _) _ _ _
  refine wpAny_bind (wpAny_field hz rfl (x := .bool true) rfl ?_)
  show wpAny _ _ (field (.ref z) 3 >>= _) _ _ _
  refine wpAny_bind (wpAny_field hz rfl (x := .ref TI) rfl (wpAny_bind (wpAny_seqItems hI rfl ?_)))
  show wpAny _ _ (Builtin.SmallTypes.ownedTupleIsFree (.ref z) >>= _) _ _ _
  refine wpAny_bind ?_
  unfold Builtin.SmallTypes.ownedTupleIsFree
  refine wpAny_bind (wpAny_field hz rfl (x := .none) rfl (wpAny_pure ?_))
  rw [if_pos rfl]
  refine wpAny_bind (wpAny_rule (wpAny_bind (wpAny_field hz rfl (x := .ref TO) rfl ?_)))
  refine wpAny_bind (wpAny_setField_rec hz (by simp) fun u0 z0 s0 => wpAny_bind ?_)
  have z0 : ZipRec u0 z TI TO .ellipsis := z0
  have s0 : Heap.SameBut z h0 u0 := s0
  simp only [List.zipIdx_cons, List.zipIdx_nil, List.forIn_cons, List.forIn_nil]
  refine wpAny_bind (wpAny_bind (wpAny_onRaise ?_))
  show wpAny _ _ (Builtin.SmallTypes.nextOrEnd (.ref i1)) _ _ ⟨u0, gs, dr, tk0, os⟩
  refine drawE_end D1 (D1.over t1 s0 S.zf1) fun u1 s1 => ?_
  have s1 : Heap.ExtBut i1 u0 u1 := s1
  have z1 : ZipRec u1 z TI TO .ellipsis := s1 _ _ S.zi1 z0
  refine wpAny_bind (wpAny_setField_rec (s := ⟨u1, gs, dr, tk0, os⟩) z1 (by simp) fun u2 z2 s2 => ?_)
  have s2 : Heap.SameBut z u1 u2 := s2
  have z2 : ZipRec u2 z TI TO .none := z2
  have t2' : St2 n u2 := D2.over (D2.frame _ _ _ (D2.over t2 s0 S.zf2) fun b hb o e => s1 b o (fun q => S.sep1_2 (q ▸ hb)) e) s2 S.zf2
  refine wpAny_bind (wpAny_bind (wpAny_bind ?_))
  show wpAny _ _ (Builtin.SmallTypes.nextOrEnd (.ref i2) >>= _) _ _ ⟨u2, gs, dr, tk0, os⟩
  refine wpAny_bind (drawE_end D2 t2' fun u3 s3 => ?_)
  have s3 : Heap.ExtBut i2 u2 u3 := s3
  rw [if_neg (by decide)]
  refine wpAny_pure (wpAny_pure (wpAny_bind (wpAny_rule ?_)))
  unfold Builtin.SmallTypes.stopIteration
  simp only [newExc, newTuple]
  refine wpAny_bind (wpAny_bind (wpAny_newObj_type ?_ (by size_fits)))
  refine wpAny_bind (m := firstArgMember _ _) (wpAny_of_eq (a := Value.none) (by first | rfl | (simp only [firstArgMember]; rfl)) ?_)
  refine wpAny_newObj_type ?_ (by size_fits)
  simp only [raiseNew]
  refine wpAny_bind (wpAny_handled ?_)
  rw [hh]
  refine wpAny_bind (wpAny_pure (wpAny_throw ?_))
  exact hE _ _ _ (fun c o cz c1 c2 e => Heap.get?_push_of_some _ (Heap.get?_push_of_some _ (s3 _ _ c2 (s2.extBut _ _ cz (s1 _ _ c1 (s0.extBut _ _ cz e)))))) ⟨_, Heap.get?_push_size _ rfl, rfl⟩
theorem pyNext_item {Q : Option Value → Shared → Prop} (S : ZipSep2 z TI TO i1 i2 fp1 fp2) (D1 : Draws prog w A.in1 i1 fp1 n1 P1 St1) (D2 : Draws prog w A.in1 i2 fp2 n2 P2 St2)
    (hz : ZipRec s.heap z TI TO .none) (hI : IsTupOf2 s.heap TI (.ref i1) (.ref i2)) (hO : IsTupOf2 s.heap TO a1 a2) (t1 : St1 i s.heap) (t2 : St2 i s.heap) (l1 : i < n1) (l2 : i < n2)
    (hQ : ∀ x1 x2 h' tk, P1 i x1 → P2 i x2 → ZipRec h' z TI TO (rawInt s.heap.objs.size) → IsTupOf2 h' TO x1 x2 → St1 (i + 1) h' → St2 (i + 1) h' → IsTupOf2 h' s.heap.objs.size x1 x2 →
      (∀ c o, c ≠ z → c ≠ TO → c ≠ i1 → c ≠ i2 → s.heap.get? c = some o → h'.get? c = some o) → Q (some (.ref s.heap.objs.size)) { s with heap := h', toks := tk }) :
    wpAny (model prog w) A (pyNext (.ref z)) Q E s := by
  have hT : s.TypeIs (.ref z) "zip" := ⟨_, hz, rfl⟩
  unfold pyNext
  exact wpAny_bind (wpAny_attempt (wpAny_callSpecial?_slot (name := Str.ofString "__next__") hT F.slot_zip_next
    (wpAny_call_entry F.slot_zip_next hT F.entry_zip_next (zipS_item S D1 D2 hz hI hO t1 t2 l1 l2 fun x1 x2 h' tk y1 y2 b1 b2 d1 d2 b5 b6 => wpAny_pure (hQ x1 x2 h' tk y1 y2 b1 b2 d1 d2 b5 b6)) (F.args_zip_next_1 _))))
theorem pyNext_end {Q : Option Value → Shared → Prop} (hh : A.handled = none) (S : ZipSep2 z TI TO i1 i2 fp1 fp2) (D1 : Draws prog w A.in1 i1 fp1 n P1 St1) (D2 : Draws prog w A.in1 i2 fp2 n P2 St2)
    (hz : ZipRec s.heap z TI TO .none) (hI : IsTupOf2 s.heap TI (.ref i1) (.ref i2)) (t1 : St1 n s.heap) (t2 : St2 n s.heap)
    (hQ : ∀ h' tk, (∀ c o, c ≠ z → c ≠ i1 → c ≠ i2 → s.heap.get? c = some o → h'.get? c = some o) → Q none { s with heap := h', toks := tk }) : wpAny (model prog w) A (pyNext (.ref z)) Q E s := by
  have hT : s.TypeIs (.ref z) "zip" := ⟨_, hz, rfl⟩
  unfold pyNext
  refine wpAny_bind (wpAny_attempt (wpAny_callSpecial?_slot (name := Str.ofString "__next__") hT F.slot_zip_next
    (wpAny_call_entry F.slot_zip_next hT F.entry_zip_next (zipS_end hh S D1 D2 hz hI t1 t2 fun h' tk e hk he => ?_) (F.args_zip_next_1 _))))
  obtain ⟨o, ho, hc⟩ := he
  exact wpAny_bind (wpAny_isInstance (T := "StopIteration") (b := true) ⟨o, ho, hc⟩ isSubtype_stop (wpAny_pure (hQ _ _ hk)))
theorem letGo {elts : List Expr} {x1} {pos : Pos} {T : Addr} {Q : Unit → Shared → Prop} (hz : ZipRec s.heap z TI TO (rawInt T))
    (hQ : ∀ h', ZipRec h' z TI TO .none → Heap.SameBut z s.heap h' → Q () { s with heap := h' }) :
    wpAny (model prog w) A (letOwnedTupleGo (.Tuple elts x1 pos) (.ref z) (.ref T)) Q E s := by
  unfold letOwnedTupleGo
  refine wpAny_bind (wpAny_load hz ?_)
  show wpAny _ _ (if (["enumerate", "zip", "dict_itemiterator", "dict_reverseitemiterator", "odict_iterator", "itertools.zip_longest", "itertools.pairwise"].contains "zip" &&
      (#[rawInt T, .bool false, .bool true, .ref TI, .ref TO] : Array Value)[0]? == some (rawInt T)) = true then _ else _) Q E s
  rw [if_pos (by simp)]
  refine wpAny_bind (wpAny_rule ?_)
  show wpAny _ _ (setField (.ref z) 0 .none) Q E s
  exact wpAny_setField_rec hz (by simp) fun h' hz' hs' => hQ h' hz' hs'
theorem pyIter_zip {f0 : Value} {Q : Value → Shared → Prop} (hz : ZipRec s.heap z TI TO f0) (h : Q (.ref z) s) : wpAny (model prog w) A (pyIter (.ref z)) Q E s := by
  have hT : s.TypeIs (.ref z) "zip" := ⟨_, hz, rfl⟩
  refine wpAny_pyIter_slot hT F.slot_zip_iter (wpAny_call_entry F.slot_zip_iter hT F.entry_zip_iter ?_ (F.args_zip_iter_1 _))
  show wpAny _ _ (ret (.ref z)) _ _ s
  exact wpAny_pure ⟨_, rfl, "zip", _, hT, F.slot_zip_next.lookup, h⟩
end
/-! ### how it is made -/
abbrev kwS : List (Str × Value) := [("strict", .bool true)]
theorem type_ok (a b : Value) : checkTypeCall "zip" ⟨[a, b], kwS⟩ = pure () := by kernel_rfl
theorem new_ok (a b : Value) : checkBuiltinCall "zip.__new__" ⟨[.type "zip", a, b], kwS⟩ = pure () := by kernel_rfl
theorem init_ok (o a b : Value) : argsOk "object.__init__" ⟨[o, a, b], kwS⟩ := by unfold argsOk; kernel_rfl
abbrev made (h : Heap) (o1 o2 : Obj) : Heap := (gzO2 h o1 o2).push { cls := .type "zip", data := .fields #[.none, .bool false, .bool true, .ref ((h.push o1).push o2).objs.size, .ref (gzT2 h o1 o2).objs.size] }
theorem new_meets {v1 v2 : Value} {o1 o2 : Obj} {H1 H2 : Heap → Prop} (B1 : Begins v1 o1 H1) (B2 : Begins v2 o2 H2) :
    Meets (Builtin.«zip.__new__» ⟨[.type "zip", v1, v2], kwS⟩) (fun _ R s => (H1 s.heap ∧ H2 s.heap) ∧ R (.ok (.ret (.ref (gzO2 s.heap o1 o2).objs.size))) { s with heap := made s.heap o1 o2 }) :=
  .of_wp fun prog w A R s h => by
    obtain ⟨hp, g, d, tk, os⟩ := s
    obtain ⟨⟨h1, h2⟩, h⟩ := h
    have hsub := sub_zip
    have q1 : ∀ {A' : Around} {E : Value → Shared → Prop} {Q : Value → Shared → Prop}, Q (.ref hp.objs.size) ⟨hp.push o1, g, d, tk, os⟩ → wpAny (model prog w) A' (pyIter v1) Q E ⟨hp, g, d, tk, os⟩ :=
      fun q => B1.iter prog w _ _ ⟨hp, g, d, tk, os⟩ _ (B1.keeps _ _ h1 fun b o' e => e) q
    have q2 : ∀ {A' : Around} {E : Value → Shared → Prop} {Q : Value → Shared → Prop}, Q (.ref (hp.push o1).objs.size) ⟨(hp.push o1).push o2, g, d, tk, os⟩ → wpAny (model prog w) A' (pyIter v2) Q E ⟨hp.push o1, g, d, tk, os⟩ :=
      fun q => B2.iter prog w _ _ ⟨hp.push o1, g, d, tk, os⟩ _ (B2.keeps _ _ h2 fun b o' e => Heap.get?_push_of_some _ e) q
    wp_walk using q1, q2
    exact ⟨_, rfl, h⟩
section
variable {prog : Program} {w : World} {A : Around} {E : Value → Shared → Prop} {s : Shared}
theorem call_zipS {v1 v2 : Value} {o1 o2 : Obj} {H1 H2 : Heap → Prop} {Q : Value → Shared → Prop} (B1 : Begins v1 o1 H1) (B2 : Begins v2 o2 H2) (h1 : H1 s.heap) (h2 : H2 s.heap)
    (h : ∀ h', ZipRec h' (s.heap.objs.size + 4) (s.heap.objs.size + 2) (s.heap.objs.size + 3) .none → IsTupOf2 h' (s.heap.objs.size + 2) (.ref s.heap.objs.size) (.ref (s.heap.objs.size + 1)) →
      IsTupOf2 h' (s.heap.objs.size + 3) .none .none → h'.get? s.heap.objs.size = some o1 → h'.get? (s.heap.objs.size + 1) = some o2 →
      (∀ c o, s.heap.get? c = some o → h'.get? c = some o) → Q (.ref (s.heap.objs.size + 4)) { s with heap := h' }) :
    wpAny (model prog w) A (call (.type "zip") [v1, v2] kwS) Q E s := by
  refine callType_newKw F.called_zip (by decide) (type_ok _ _) (new_ok _ _) (fun obj => init_ok obj _ _) F.entry_zip_new (new_meets B1 B2) ⟨⟨h1, h2⟩, ?_⟩
  have e1 : (s.heap.push o1).objs.size = s.heap.objs.size + 1 := Heap.size_push ..
  have e2 : ((s.heap.push o1).push o2).objs.size = s.heap.objs.size + 2 := by rw [Heap.size_push, e1]
  have e3 : (gzT2 s.heap o1 o2).objs.size = s.heap.objs.size + 3 := by rw [Heap.size_push, e2]
  have e4 : (gzO2 s.heap o1 o2).objs.size = s.heap.objs.size + 4 := by rw [Heap.size_push, e3]
  have g5 : (made s.heap o1 o2).get? (gzO2 s.heap o1 o2).objs.size = some _ := Heap.get?_push_size _ rfl
  have g4 : (made s.heap o1 o2).get? (gzT2 s.heap o1 o2).objs.size = some _ := Heap.get?_push_of_some _ (Heap.get?_push_size _ rfl)
  have g3 : (made s.heap o1 o2).get? ((s.heap.push o1).push o2).objs.size = some _ := Heap.get?_push_of_some _ (Heap.get?_push_of_some _ (Heap.get?_push_size _ rfl))
  have g2 : (made s.heap o1 o2).get? (s.heap.push o1).objs.size = some o2 := Heap.get?_push_of_some _ (Heap.get?_push_of_some _ (Heap.get?_push_of_some _ (Heap.get?_push_size _ B2.free)))
  have g1 : (made s.heap o1 o2).get? s.heap.objs.size = some o1 := Heap.get?_push_of_some _ (Heap.get?_push_of_some _ (Heap.get?_push_of_some _ (Heap.get?_push_of_some _ (Heap.get?_push_size _ B1.free))))
  rw [e4, e3, e2] at g5
  rw [e3] at g4
  rw [e2, e1] at g3
  rw [e1] at g2
  show _ ∧ _
  rw [e4]
  exact ⟨⟨_, g5, rfl⟩, h _ g5 g3 g4 g1 g2 fun c o e => Heap.get?_push_of_some _ (Heap.get?_push_of_some _ (Heap.get?_push_of_some _ (Heap.get?_push_of_some _ (Heap.get?_push_of_some _ e))))⟩
theorem callWith_typeKw {env : Env} {pos : Pos} {T : String} {e : Expr} {rest : List Expr} {kws : List Keyword} {Q : Value → Shared → Prop}
    (h : wpAny (model prog w) A (spliced (backTo pos (starEach (e :: rest) env))) (fun vs s₁ => wpAny (model prog w) A (evalAll ((backToKw pos (keywordEach kws env)).map (·.2)))
      (fun kvs s₂ => wpAny (model prog w) A (call (.type T) vs (((backToKw pos (keywordEach kws env)).filterMap (·.1)).zip kvs)) Q E s₂) E s₁) E s)
    (he : backTo pos (starEach (e :: rest) env) = (false, eval e env) :: backTo pos (starEach rest env) := by rfl)
    (hplain : (backTo pos (starEach (e :: rest) env)).any (·.1) = false := by rfl)
    (hall : (backToKw pos (keywordEach kws env)).all (·.1.isSome) = true := by rfl)
    (hkw : (backToKw pos (keywordEach kws env)).any (·.1.isNone) = false := by rfl) :
    wpAny (model prog w) A (callWith pos (.type T) [] (backTo pos (starEach (e :: rest) env)) (backToKw pos (keywordEach kws env))) Q E s := by
  unfold callWith
  refine wpAny_bind (wpAny_holding (wpAny_mono (?_ : wpAny _ _ _ (fun a s₁ => wpAny (model prog w) A (call (.type T) ([] ++ a.pos) a.kw) Q E s₁) _ _) (fun a s₁ h₁ => wpAny_bind (wpAny_standAt ?_)) fun _ _ x => x))
  · rw [he] at h ⊢
    exact PyProof.Rows.evalArgs_kwB hall h
  · simp only [hplain, hkw, Bool.or_false]
    refine wpAny_bind (wpAny_pure ?_)
    exact wpAny_bind (wpAny_mono h₁ (fun r s₂ hr => wpAny_bind (wpAny_holding (wpAny_point (wpAny_pure hr)))) fun _ _ x => x)
end
end HZ

/-! HA26: zip(a, b), zip(a, b, strict=True) of tuples and lists, walked. -/
namespace HZ
open PySem PySem.Spec PyProof.Rows L2
abbrev zrec (st : Bool) (h : Heap) (z TI TO : Addr) (f0 : Value) : Prop := h.get? z = some { cls := .type "zip", dict := none, data := .fields #[f0, .bool false, .bool st, .ref TI, .ref TO], slots := #[] }
def PIter (k : Bool) (h : Heap) (it l : Addr) (i : Nat) : Prop := if k = true then h.IsTupleIter it l i else h.IsListIter it l i
def PSeq (k : Bool) (h : Heap) (l : Addr) (xs : Array Value) : Prop := if k = true then h.IsTuple l xs else h.IsList l xs
def pobj (k : Bool) (l : Addr) : Obj := { cls := .type (if k = true then "tuple_iterator" else "list_iterator"), data := .fields #[.ref l, .int 0 0] }
theorem PIter.at {k : Bool} {h h' : Heap} {it l : Addr} {i : Nat} (st : PIter k h it l i) (e : ∀ o, h.get? it = some o → h'.get? it = some o) : PIter k h' it l i := by
  cases k
  · exact Heap.IsListIter.at st e
  · exact Heap.IsTupleIter.at st e
theorem PIter.live {k : Bool} {h : Heap} {it l : Addr} {i : Nat} (st : PIter k h it l i) : ∃ o, h.get? it = some o ∧ ∀ v, o.data ≠ .cell v := by
  cases k
  · obtain ⟨o, e, _, d⟩ := st; exact ⟨o, e, fun v q => by rw [d] at q; cases q⟩
  · obtain ⟨o, e, _, d⟩ := st; exact ⟨o, e, fun v q => by rw [d] at q; cases q⟩
theorem drawsP {k : Bool} {prog : Program} {w : World} {A : Around} (hh : A.handled = none) (it l : Addr) (hne : l ≠ it) (items : Array Value) :
    Draws prog w A it [it, l] items.size (fun i v => items[i]? = some v) (fun i h => PIter k h it l i ∧ PSeq k h l items) := by
  cases k
  · exact Draws.list hh it l hne items
  · exact Draws.tuple hh it l hne items
theorem beginsP (k : Bool) (l : Addr) (items : Array Value) : Begins (.ref l) (pobj k l) fun h => PSeq k h l items := by
  cases k
  · exact begins_list l items
  · exact begins_tuple l items
section
variable {prog : Program} {w : World} {A : Around} {E : Value → Shared → Prop} {s : Shared} {z TI TO i1 i2 it : Addr} {fp fp1 fp2 : List Addr} {n n1 n2 i : Nat} {P P1 P2 : Nat → Value → Prop} {St St1 St2 : Nat → Heap → Prop} {a1 a2 : Value} {st : Bool}
theorem nextB_item {Q : Option Value → Shared → Prop} (S : ZipSep2 z TI TO i1 i2 fp1 fp2) (D1 : Draws prog w A.in1 i1 fp1 n1 P1 St1) (D2 : Draws prog w A.in1 i2 fp2 n2 P2 St2)
    (hz : zrec st s.heap z TI TO .none) (hI : IsTupOf2 s.heap TI (.ref i1) (.ref i2)) (hO : IsTupOf2 s.heap TO a1 a2) (t1 : St1 i s.heap) (t2 : St2 i s.heap) (l1 : i < n1) (l2 : i < n2)
    (hQ : ∀ x1 x2 h' tk, P1 i x1 → P2 i x2 → zrec st h' z TI TO (rawInt s.heap.objs.size) → IsTupOf2 h' TO x1 x2 → St1 (i + 1) h' → St2 (i + 1) h' → IsTupOf2 h' s.heap.objs.size x1 x2 →
      (∀ c o, c ≠ z → c ≠ TO → c ≠ i1 → c ≠ i2 → s.heap.get? c = some o → h'.get? c = some o) → Q (some (.ref s.heap.objs.size)) { s with heap := h', toks := tk }) :
    wpAny (model prog w) A (pyNext (.ref z)) Q E s := by
  cases st
  · exact wpAny_pyNext_zipD2_item S D1 D2 hz hI hO t1 t2 l1 l2 fun x1 x2 h' tk a b c d e f g _ k => hQ x1 x2 h' tk a b c d e f g k
  · exact pyNext_item S D1 D2 hz hI hO t1 t2 l1 l2 hQ
theorem nextB_end {Q : Option Value → Shared → Prop} (hh : A.handled = none) (S : ZipSep2 z TI TO i1 i2 fp1 fp2) (D1 : Draws prog w A.in1 i1 fp1 n1 P1 St1) (D2 : Draws prog w A.in1 i2 fp2 n2 P2 St2)
    (hz : zrec st s.heap z TI TO .none) (hI : IsTupOf2 s.heap TI (.ref i1) (.ref i2)) (hO : IsTupOf2 s.heap TO a1 a2) (t1 : St1 i s.heap) (t2 : St2 i s.heap) (l1 : i ≤ n1) (l2 : i ≤ n2) (he : i = n1 ∨ i = n2) (hs : st = true → i = n1 ∧ i = n2)
    (hQ : ∀ h' tk, (∀ c o, c ≠ z → c ≠ TO → c ≠ i1 → c ≠ i2 → s.heap.get? c = some o → h'.get? c = some o) → Q none { s with heap := h', toks := tk }) : wpAny (model prog w) A (pyNext (.ref z)) Q E s := by
  cases st
  · exact wpAny_pyNext_zipD2_end S D1 D2 hz hI hO t1 t2 l1 l2 he hQ
  · obtain ⟨rfl, rfl⟩ := hs rfl
    exact pyNext_end hh S D1 D2 hz hI t1 t2 fun h' tk k => hQ h' tk fun c o c1 _ c3 c4 e => k c o c1 c3 c4 e
theorem letGoB {elts : List Expr} {x1} {pos : Pos} {T : Addr} {Q : Unit → Shared → Prop} (hz : zrec st s.heap z TI TO (rawInt T))
    (hQ : ∀ h', zrec st h' z TI TO .none → Heap.SameBut z s.heap h' → Q () { s with heap := h' }) :
    wpAny (model prog w) A (letOwnedTupleGo (.Tuple elts x1 pos) (.ref z) (.ref T)) Q E s := by
  cases st
  · exact wpAny_letOwnedTupleGo_zip hz hQ
  · exact letGo hz hQ
theorem pyIterB {f0 : Value} {Q : Value → Shared → Prop} (hz : zrec st s.heap z TI TO f0) (h : Q (.ref z) s) : wpAny (model prog w) A (pyIter (.ref z)) Q E s := by
  cases st
  · exact wpAny_pyIter_zip hz h
  · exact pyIter_zip hz h
end
theorem sep_new {I a b : Nat} (ha : a < I) (hb : b < I) : ZipSep2 (I + 4) (I + 2) (I + 3) I (I + 1) [I, a] [I + 1, b] := by
  have nm : ∀ {x y c : Nat}, x ≠ y → x ≠ c → x ∉ [y, c] := fun h1 h2 h => by
    rcases List.mem_cons.mp h with e | e
    · exact h1 e
    · exact h2 (List.mem_singleton.mp e)
  have a1 : (I + 2 : Nat) ≠ I + 4 := by omega
  have a2 : (I + 3 : Nat) ≠ I + 4 := by omega
  have a3 : (I + 2 : Nat) ≠ I + 3 := by omega
  have a4 : (I + 2 : Nat) ≠ I := by omega
  have a5 : (I + 2 : Nat) ≠ I + 1 := by omega
  exact ⟨a1, a2, a3, a4, List.mem_cons_self, nm (by omega) (by omega), nm (by omega) (by omega), a5, List.mem_cons_self, nm (by omega) (by omega), nm (by omega) (by omega), nm (by omega) (by omega), nm (by omega) (by omega)⟩
def PtAt (K : PySem.W.Frag) (H : Hp) (p : Bool × Addr) (xs : List V) : Prop := if p.1 = true then SqT K H p.2 xs else SqL K H p.2 xs
section
variable {X : Cx} {pins : List (Addr × Obj)} {σ : L2.St} {H : Hp} {s : Shared} {p : Bool × Addr} {xs ys : List V}
theorem ptAt (I : Inv X pins σ H s) (h : PtAt X.K H p xs) : ∃ its : List Value, Vals xs its ∧ PSeq p.1 s.heap p.2 its.toArray := by
  obtain ⟨k, a⟩ := p
  cases k
  · obtain ⟨its, r, q, _⟩ := I.list h
    exact ⟨its, r, q.isList⟩
  · obtain ⟨its, r, q, _⟩ := I.tuple h
    exact ⟨its, r, q⟩
theorem pt_inj (I : Inv X pins σ H s) (h : PtAt X.K H p xs) (h' : PtAt X.K H p ys) : xs = ys := by
  obtain ⟨k, a⟩ := p
  cases k
  · exact I.list_inj h h'
  · exact I.tuple_inj h h'
theorem PSeq.lt {k : Bool} {h : Heap} {l : Addr} {its : Array Value} (q : PSeq k h l its) : l < h.objs.size := by
  cases k
  · obtain ⟨o, e, _⟩ := q; exact Heap.lt_size e
  · obtain ⟨o, e, _⟩ := q; exact Heap.lt_size e
end
/-- the parts at p and q as they stand at each turn, N pairs -/
def Itq (K : PySem.W.Frag) (st : Bool) (N : Nat) (p q : Bool × Addr) : It :=
  ⟨fun i H => i < N ∧ ∃ (xs ys : List V) (x y : V), PtAt K H p xs ∧ PtAt K H q ys ∧ xs[i]? = some x ∧ ys[i]? = some y,
    fun i H v H' => ∃ T x y, v = .ref T ∧ H T = none ∧ H' = upd H T (.tup [x, y]) ∧ (∀ xs, PtAt K H p xs → xs[i]? = some x) ∧ ∀ ys, PtAt K H q ys → ys[i]? = some y,
    fun i H => N ≤ i ∧ ∃ xs ys : List V, PtAt K H p xs ∧ PtAt K H q ys ∧ N ≤ xs.length ∧ N ≤ ys.length ∧ (N = xs.length ∨ N = ys.length) ∧ (st = true → N = xs.length ∧ N = ys.length)⟩
theorem turn_q {P : Program} {w : World} {K : PySem.W.Frag} {elts : List Expr} {kk : Nat} {tpos : Pos} {p q : Bool × Addr} {st : Bool} {N : Nat} {z TI TO i1 i2 : Addr} (D : ZipSep2 z TI TO i1 i2 [i1, p.2] [i2, q.2]) (na : p.2 ≠ i1) (nb : q.2 ≠ i2) :
    Turn P w K (.Tuple elts kk tpos) (Itq K st N p q) [z, TI, TO, i1, i2] z (fun i h => i ≤ N ∧ zrec st h z TI TO .none ∧ IsTupOf2 h TI (.ref i1) (.ref i2) ∧ (∃ x y, IsTupOf2 h TO x y) ∧ PIter p.1 h i1 p.2 i ∧ PIter q.1 h i2 q.2 i) where
  mem := by simp
  obj := fun i h st c hc => by
    obtain ⟨_, hz, hTI, ⟨x, y, hTO⟩, h1, h2⟩ := st
    obtain ⟨o1, e1, d1⟩ := h1.live
    obtain ⟨o2, e2, d2⟩ := h2.live
    have e' : c = z ∨ c = TI ∨ c = TO ∨ c = i1 ∨ c = i2 := by simpa using hc
    rcases e' with q | q | q | q | q
    · rw [q]; exact ⟨_, hz, fun v q => nomatch q⟩
    · rw [q]; exact ⟨_, hTI, fun v q => nomatch q⟩
    · rw [q]; exact ⟨_, hTO, fun v q => nomatch q⟩
    · rw [q]; exact ⟨o1, e1, d1⟩
    · rw [q]; exact ⟨o2, e2, d2⟩
  keep := fun i h h' st k => by
    obtain ⟨hn, hz, hTI, ⟨x, y, hTO⟩, h1, h2⟩ := st
    exact ⟨hn, k z (by simp) _ hz, k TI (by simp) _ hTI, ⟨x, y, k TO (by simp) _ hTO⟩, h1.at fun o q => k i1 (by simp) o q, h2.at fun o q => k i2 (by simp) o q⟩
  item := by
    intro X hP hw hK hc i pins s σ H E I hf st hg
    subst hP hw hK
    obtain ⟨_, hz, hTI, ⟨x0, y0, hTO⟩, h1, h2⟩ := st
    obtain ⟨hlt, xs, ys, x, y, hqx, hqy, hx, hy⟩ := hg
    obtain ⟨its, rv, p1⟩ := ptAt I hqx
    obtain ⟨its2, rv2, p2⟩ := ptAt I hqy
    obtain ⟨u, hu, ru⟩ := rv.get hx
    obtain ⟨u2, hu2, ru2⟩ := rv2.get hy
    have hzl : z < s.heap.objs.size := Heap.lt_size hz
    have hh : X.A.in1.handled = none := I.ok.hd hc
    refine nextB_item D (drawsP hh i1 p.2 na its.toArray) (drawsP hh i2 q.2 nb its2.toArray) hz hTI hTO ⟨h1, p1⟩ ⟨h2, p2⟩ (by simpa using (List.getElem?_eq_some_iff.mp hu).1) (by simpa using (List.getElem?_eq_some_iff.mp hu2).1) fun v v2 h' tk ev ev2 z' TO' t1 t2 hT hk => ?_
    obtain rfl : v = u := by
      have : its[i]? = some v := by simpa using ev
      rw [hu] at this; cases this; rfl
    obtain rfl : v2 = u2 := by
      have : its2[i]? = some v2 := by simpa using ev2
      rw [hu2] at this; cases this; rfl
    refine ⟨_, rfl, letGoB (s := { s with heap := h', toks := tk }) z' fun h'' z'' sb => ?_⟩
    have sb : Heap.SameBut z h' h'' := sb
    have hT2 : h''.get? s.heap.objs.size = some { cls := .type "tuple", data := .seq #[v, v2] } := (sb.2 _ (Nat.ne_of_gt hzl)).trans hT
    have new : ObjOk X.prog X.w (upd H s.heap.objs.size (.tup [x, y])) h'' s.heap.objs.size (.tup [x, y]) :=
      ⟨by show 2 ≤ sizeLine; decide, [v, v2], .cons ru (.cons ru2 .nil), ⟨_, hT2, rfl, _, rfl⟩⟩
    have I1 : Inv X pins σ (upd H s.heap.objs.size (.tup [x, y])) { s with heap := h'', toks := tk } :=
      I.turnedNew (t' := tk) (ch := [z, TI, TO, i1, i2]) (fun c o hb q => (sb.2 c (fun q' => hb (by simp [q']))).trans (hk c o (fun q' => hb (by simp [q'])) (fun q' => hb (by simp [q'])) (fun q' => hb (by simp [q'])) (fun q' => hb (by simp [q'])) q)) hf (Nat.le_refl _) new
    refine ⟨.ref s.heap.objs.size, _, I1, rfl, ⟨_, x, y, rfl, I.hok.fresh (Nat.le_refl _), rfl, fun l hl => by rw [pt_inj I hl hqx]; exact hx, fun l hl => by rw [pt_inj I hl hqy]; exact hy⟩, ⟨hlt, z'', ?_, ⟨v, v2, ?_⟩, ?_, ?_⟩, fun c hcm => ?_⟩
    · exact (sb.2 _ D.TIz).trans (hk _ _ D.TIz D.TITO D.TIi1 D.TIi2 hTI)
    · exact (sb.2 _ D.TOz).trans TO'
    · exact t1.1.at fun o q => (sb.2 _ (fun e => D.zi1 e.symm)).trans q
    · exact t2.1.at fun o q => (sb.2 _ (fun e => D.zi2 e.symm)).trans q
    · have hlt : c < s.heap.objs.size := by
        have e' : c = z ∨ c = TI ∨ c = TO ∨ c = i1 ∨ c = i2 := by simpa using hcm
        rcases e' with q | q | q | q | q
        · rw [q]; exact hzl
        · rw [q]; exact Heap.lt_size hTI
        · rw [q]; exact Heap.lt_size hTO
        · rw [q]; obtain ⟨_, e1, _⟩ := h1.live; exact Heap.lt_size e1
        · rw [q]; obtain ⟨_, e2, _⟩ := h2.live; exact Heap.lt_size e2
      rw [upd_ne (Nat.ne_of_lt hlt)]
      exact (hf c hcm).1
  done := by
    intro X hP hw hK hc i pins s σ H E I hf st hg
    subst hP hw hK
    obtain ⟨hn, hz, hTI, ⟨x0, y0, hTO⟩, h1, h2⟩ := st
    obtain ⟨hN, xs, ys, hqx, hqy, k1, k2, k3, k4⟩ := hg
    obtain ⟨its, rv, p1⟩ := ptAt I hqx
    obtain ⟨its2, rv2, p2⟩ := ptAt I hqy
    have l1 := rv.length
    have l2 := rv2.length
    obtain rfl : i = N := Nat.le_antisymm hn hN
    have hh : X.A.in1.handled = none := I.ok.hd hc
    refine nextB_end (I.ok.hd hc) D (drawsP hh i1 p.2 na its.toArray) (drawsP hh i2 q.2 nb its2.toArray) hz hTI hTO ⟨h1, p1⟩ ⟨h2, p2⟩ (by simp; omega) (by simp; omega) (by simp; omega) (fun e => by have := k4 e; simp; omega) fun h' tk hk => ⟨rfl, I.turnedL (t' := tk) (ch := [z, TI, TO, i1, i2]) (fun c o hb q =>
      hk c o (fun q' => hb (by simp [q'])) (fun q' => hb (by simp [q'])) (fun q' => hb (by simp [q'])) (fun q' => hb (by simp [q'])) q) hf⟩
  self := fun A i s Q E st h => pyIterB st.2.1 h
theorem pie_q {X : Cx} {elts : List Expr} {kk : Nat} {tpos : Pos} {pins : List (Addr × Obj)} {σ : L2.St} {H1 : Hp} {s1 : Shared} {R : It → Hp → Prop} {p q : Bool × Addr} {st : Bool} {N : Nat} {its its2 : Array Value} (I1 : Inv X pins σ H1 s1) (p1 : PSeq p.1 s1.heap p.2 its) (p2 : PSeq q.1 s1.heap q.2 its2)
    {h' : Heap} (hz : zrec st h' (s1.heap.objs.size + 4) (s1.heap.objs.size + 2) (s1.heap.objs.size + 3) .none) (hI : IsTupOf2 h' (s1.heap.objs.size + 2) (.ref s1.heap.objs.size) (.ref (s1.heap.objs.size + 1)))
    (hO : IsTupOf2 h' (s1.heap.objs.size + 3) .none .none) (h1 : h'.get? s1.heap.objs.size = some (pobj p.1 p.2)) (h2 : h'.get? (s1.heap.objs.size + 1) = some (pobj q.1 q.2)) (hk : ∀ c o, s1.heap.get? c = some o → h'.get? c = some o) (hR : R (Itq X.K st N p q) H1) :
    PIE X pins σ (.Tuple elts kk tpos) R (.ref (s1.heap.objs.size + 4)) { s1 with heap := h' } := by
  have I2 : Inv X pins σ H1 { s1 with heap := h' } := I1.kept (t' := s1.toks) hk
  have i1 : PIter p.1 h' s1.heap.objs.size p.2 0 := by
    revert h1
    cases p.1
    · exact fun h1 => ⟨_, h1, rfl, rfl⟩
    · exact fun h1 => ⟨_, h1, rfl, rfl⟩
  have i2 : PIter q.1 h' (s1.heap.objs.size + 1) q.2 0 := by
    revert h2
    cases q.1
    · exact fun h2 => ⟨_, h2, rfl, rfl⟩
    · exact fun h2 => ⟨_, h2, rfl, rfl⟩
  have la := p1.lt
  have lb := p2.lt
  have na : p.2 ≠ s1.heap.objs.size := Nat.ne_of_lt la
  have nb : q.2 ≠ s1.heap.objs.size + 1 := Nat.ne_of_lt (Nat.lt_succ_of_lt lb)
  refine ⟨s1.heap.objs.size + 4, [s1.heap.objs.size + 4, s1.heap.objs.size + 2, s1.heap.objs.size + 3, s1.heap.objs.size, s1.heap.objs.size + 1], _, _, H1, rfl, I2, turn_q (sep_new la lb) na nb, ⟨Nat.zero_le _, hz, hI, ⟨_, _, hO⟩, i1, i2⟩, fun c hcm => ?_, hR⟩
  have e' : c = s1.heap.objs.size + 4 ∨ c = s1.heap.objs.size + 2 ∨ c = s1.heap.objs.size + 3 ∨ c = s1.heap.objs.size ∨ c = s1.heap.objs.size + 1 := by simpa using hcm
  have hle : s1.heap.objs.size ≤ c := by
    rcases e' with z | z | z | z | z
    · rw [z]; exact Nat.le_add_right _ _
    · rw [z]; exact Nat.le_add_right _ _
    · rw [z]; exact Nat.le_add_right _ _
    · rw [z]; exact Nat.le_refl _
    · rw [z]; exact Nat.le_add_right _ _
  exact I1.fpOk hle (I1.hok.fresh hle)
def ZipOk (K : PySem.W.Frag) (st : Bool) (vs : List V) (H1 : Hp) (R : It → Hp → Prop) : Prop := ∃ (p q : Bool × Addr) (N : Nat) (xs ys : List V), vs = [.ref p.2, .ref q.2] ∧ PtAt K H1 p xs ∧ PtAt K H1 q ys ∧ R (Itq K st N p q) H1
theorem pi_zipN {X : Cx} {e e2 : Expr} {ta : TA} {p pos tpos : Pos} {elts : List Expr} {kk : Nat} (hg : Gl X "zip") (hm : X.mg "zip" = none) (ha : PA X [e, e2] ta)
    (hs : starEach [e, e2] X.env = (false, eval e X.env) :: starEach [e2] X.env := by rfl) (hpl : (backTo pos (starEach [e2] X.env)).any (·.1) = false := by rfl) :
    PI X (.Tuple elts kk tpos) (.Call (.Name "zip" p) [e, e2] [] pos) (fun σ H R => ta σ H fun vs H1 => ZipOk X.K false vs H1 R) := by
  refine ⟨fun pins s σ H R I h => ?_⟩
  refine Call_ (ld_blt I hg hm PyProof.Rows.boot_zip (PyProof.Rows.callWith_type1 (thn (ha.run pos pins s σ H _ I h) fun us s1 ⟨vs, H1, I1, r1, q1⟩ => ?_) hs hpl))
  obtain ⟨a, b, N, xs, ys, ex, hqx, hqy, q⟩ := q1
  subst ex
  obtain ⟨u, v, rfl, r, r'⟩ := vals2 r1
  obtain rfl : u = Value.ref a.2 := r
  obtain rfl : v = Value.ref b.2 := r'
  obtain ⟨its, _, p1⟩ := ptAt I1 hqx
  obtain ⟨its2, _, p2⟩ := ptAt I1 hqy
  exact zip_begins2 (beginsP a.1 a.2 _) (beginsP b.1 b.2 _) p1 p2 fun h' hz hI hO h1 h2 _ hk => wpAny_pyIter_zip hz (pie_q (st := false) I1 p1 p2 hz hI hO h1 h2 hk q)
theorem pi_zipS {X : Cx} {e e2 : Expr} {ta tk : TA} {p pos tpos : Pos} {elts : List Expr} {kk : Nat} {kws : List Keyword} (hg : Gl X "zip") (hm : X.mg "zip" = none) (ha : PA X [e, e2] ta) (hk : PK X kws tk)
    (he : backTo pos (starEach [e, e2] X.env) = (false, eval e X.env) :: backTo pos (starEach [e2] X.env) := by rfl) (hpl : (backTo pos (starEach [e, e2] X.env)).any (·.1) = false := by rfl)
    (hall : (backToKw pos (keywordEach kws X.env)).all (·.1.isSome) = true := by rfl) (hnone : (backToKw pos (keywordEach kws X.env)).any (·.1.isNone) = false := by rfl) (hks : (backToKw pos (keywordEach kws X.env)).filterMap (·.1) = (["strict"] : List Str) := by rfl) :
    PI X (.Tuple elts kk tpos) (.Call (.Name "zip" p) [e, e2] kws pos) (fun σ H R => ta σ H fun vs H1 => tk σ H1 fun zs H2 => zs = [.bl true] ∧ ZipOk X.K true vs H2 R) := by
  refine ⟨fun pins s σ H R I h => ?_⟩
  refine wpAny_Call_Name_kw (ld_blt I hg hm PyProof.Rows.boot_zip (callWith_typeKw (thn (ha.run pos pins s σ H _ I h) fun us s1 ⟨vs, H1, I1, r1, q1⟩ => thn (hk.run pos pins s1 σ H1 _ I1 q1) fun ws s2 ⟨zs, H2, I2, r2, q2⟩ => ?_) he hpl hall hnone))
  rw [hks]
  obtain ⟨ez, a, b, N, xs, ys, ex, hqx, hqy, q⟩ := q2
  subst ex
  subst ez
  obtain ⟨u, v, rfl, r, r'⟩ := vals2 r1
  obtain rfl : u = Value.ref a.2 := r
  obtain rfl : v = Value.ref b.2 := r'
  obtain ⟨w, rfl, rw'⟩ := vals1 r2
  obtain rfl : w = Value.bool true := rw'
  obtain ⟨its, _, p1⟩ := ptAt I2 hqx
  obtain ⟨its2, _, p2⟩ := ptAt I2 hqy
  exact call_zipS (beginsP a.1 a.2 _) (beginsP b.1 b.2 _) p1 p2 fun h' hz hI hO h1 h2 hk => pyIter_zip hz (pie_q (st := true) I2 p1 p2 hz hI hO h1 h2 hk q)
end HZ
namespace HA
open PySem PySem.Spec PyProof.Rows L2
def partOf (d : D) (ah : AH) : Option (List D × List (Nat × List D)) := match d with
  | .tup ds => some (ds, [])
  | .ref n => (listAt ah n).map fun ds => (ds, [(n, ds)])
  | _ => none
def pairsD (xs ys : List D) : List D := (xs.zip ys).map fun p => .tup [p.1, p.2]
def iZipD (st : Bool) (d e : D) (ah : AH) : Res Itm := match partOf d ah, partOf e ah with
  | some (xs, g), some (ys, g') => if st = true ∧ xs.length ≠ ys.length then .stuck else .ok ⟨pairsD xs ys, g ++ g'⟩ ah
  | _, _ => .stuck
theorem pairsD_get {xs ys : List D} {i : Nat} {d : D} (h : (pairsD xs ys)[i]? = some d) : ∃ x y, xs[i]? = some x ∧ ys[i]? = some y ∧ d = .tup [x, y] := by
  unfold pairsD at h
  rw [List.getElem?_map, Option.map_eq_some_iff] at h
  obtain ⟨⟨x, y⟩, h, rfl⟩ := h
  rw [List.getElem?_zip_eq_some] at h
  exact ⟨x, y, h.1, h.2, rfl⟩
theorem part_at {K : PySem.W.Frag} {μ : List Addr} {H : Hp} {ah : AH} {d : D} {v : V} {ds : List D} {g : List (Nat × List D)} (S : Sim K μ H ah) (r : Rep K μ H d v) (e : partOf d ah = some (ds, g)) :
    ∃ p : Bool × Addr, v = .ref p.2 ∧ ∀ μ' H' ah', Ext K μ H μ' H' → Sim K μ' H' ah' → (g.all fun q => decide (listAt ah' q.1 = some q.2)) = true → ∃ xs, HZ.PtAt K H' p xs ∧ Reps K μ' H' ds xs := by
  unfold partOf at e
  split at e
  · cases e
    obtain ⟨a, vs, rfl, q, rr⟩ := d_tup r
    exact ⟨(true, a), rfl, fun μ' H' ah' x S' _ => ⟨vs, x.tup a vs q, rr.ext x⟩⟩
  · rename_i n
    rw [Option.map_eq_some_iff] at e
    obtain ⟨ds', el, e⟩ := e
    cases e
    obtain ⟨a, ea, rfl⟩ := d_ref r
    refine ⟨(false, a), rfl, fun μ' H' ah' x S' o => ?_⟩
    simp only [List.all_cons, List.all_nil, Bool.and_true, decide_eq_true_eq] at o
    obtain ⟨b, vs, eb, q, rr⟩ := S'.list o
    rw [pre_get x.pre ea] at eb; cases eb
    exact ⟨vs, q, rr⟩
  · cases e
theorem zip_ok {K : PySem.W.Frag} {μ : List Addr} {H : Hp} {ah : AH} {st : Bool} {d e : D} {v w : V} {t : Itm} (S : Sim K μ H ah) (r : Rep K μ H d v) (r' : Rep K μ H e w) (q : iZipD st d e ah = .ok t ah) :
    ∃ (p1 p2 : Bool × Addr) (N : Nat) (xs ys : List V), [v, w] = [.ref p1.2, .ref p2.2] ∧ HZ.PtAt K H p1 xs ∧ HZ.PtAt K H p2 ys ∧ ItOk K μ H t (HZ.Itq K st N p1 p2) := by
  unfold iZipD at q
  split at q
  · rename_i ds g ds' g' e1 e2
    split at q
    · cases q
    · rename_i hs
      cases q
      obtain ⟨p1, rfl, k1⟩ := part_at S r e1
      obtain ⟨p2, rfl, k2⟩ := part_at S r' e2
      have ok1 : (g.all fun q => decide (listAt ah q.1 = some q.2)) = true := by
        unfold partOf at e1
        split at e1
        · cases e1; rfl
        · rw [Option.map_eq_some_iff] at e1
          obtain ⟨x, el, e1⟩ := e1
          cases e1
          simp [el]
        · cases e1
      have ok2 : (g'.all fun q => decide (listAt ah q.1 = some q.2)) = true := by
        unfold partOf at e2
        split at e2
        · cases e2; rfl
        · rw [Option.map_eq_some_iff] at e2
          obtain ⟨x, el, e2⟩ := e2
          cases e2
          simp [el]
        · cases e2
      obtain ⟨xs, hx, rx⟩ := k1 μ H ah Ext.refl S ok1
      obtain ⟨ys, hy, ry⟩ := k2 μ H ah Ext.refl S ok2
      refine ⟨p1, p2, (pairsD ds ds').length, xs, ys, rfl, hx, hy, ?_⟩
      intro i μ' H' ah' x S' o
      have o : ((g ++ g').all fun q => decide (listAt ah' q.1 = some q.2)) = true := o
      rw [List.all_append, Bool.and_eq_true] at o
      obtain ⟨us, hu, ru⟩ := k1 μ' H' ah' x S' o.1
      obtain ⟨ws, hw, rw'⟩ := k2 μ' H' ah' x S' o.2
      have lN : (pairsD ds ds').length = min ds.length ds'.length := by unfold pairsD; simp
      have l1 := ru.length
      have l2 := rw'.length
      refine ⟨fun hl => ⟨hl, us, ws, hu, hw, by omega, by omega, by omega, fun es => ?_⟩, fun d ed => ?_⟩
      · have : ds.length = ds'.length := by
          by_cases q : ds.length = ds'.length
          · exact q
          · exact (hs ⟨es, q⟩).elim
        omega
      · obtain ⟨a, b, ea, eb, rfl⟩ := pairsD_get ed
        obtain ⟨va, eva, rva⟩ := ru.get ea
        obtain ⟨vb, evb, rvb⟩ := rw'.get eb
        refine ⟨⟨(List.getElem?_eq_some_iff.mp ed).1, us, ws, va, vb, hu, hw, eva, evb⟩, fun y H'' yl => ?_⟩
        obtain ⟨T, y1, y2, rfl, nT, rfl, z1, z2⟩ := yl
        have f1 := z1 us hu
        rw [eva] at f1; cases f1
        have f2 := z2 ws hw
        rw [evb] at f2; cases f2
        have ex : Ext K μ' H' μ' (upd H' T (.tup [va, vb])) := Ext.other nT
        refine ⟨ex, S'.other nT, ?_⟩
        simp only [Rep]
        exact ⟨T, _, rfl, SqT.of upd_same, Reps.cons (rva.ext ex) (Reps.cons (rvb.ext ex) Reps.nil)⟩
  · cases q
theorem iZip_ah {st : Bool} {d f : D} {ah ah' : AH} {t : Itm} (h : iZipD st d f ah = .ok t ah') : ah' = ah := by
  unfold iZipD at h
  split at h
  · split at h
    · cases h
    · cases h; rfl
  · cases h
theorem iZip_exn {st : Bool} {d f : D} {ah ah' : AH} {c : Addr} {fs} (h : iZipD st d f ah = .exn c fs ah') : False := by
  unfold iZipD at h
  split at h
  · split at h <;> cases h
  · cases h
theorem zip_run {K : PySem.W.Frag} {Wx : Value → Option Addr → Hp → Prop} {μ : List Addr} {H : Hp} {ah : AH} {st : Bool} {d f : D} {v w : V} {R : It → Hp → Prop} (S : Sim K μ H ah) (r : Rep K μ H d v) (r' : Rep K μ H f w) (h : Post K (RI K) Wx μ H R (iZipD st d f ah)) : HZ.ZipOk K st [v, w] H R := by
  cases q : iZipD st d f ah with
  | ok t ah3 =>
    obtain rfl := iZip_ah q
    obtain ⟨p1, p2, N, xs, ys, e, hx, hy, hr⟩ := zip_ok S r r' q
    rw [q] at h
    exact ⟨p1, p2, N, xs, ys, e, hx, hy, Post.ok1 (R := RI K) h S hr⟩
  | exn c fs ah3 => exact (iZip_exn q).elim
  | stuck => rw [q] at h; exact h.elim
section
variable {X : Cx} {W : WX} {e f : Expr} {m m2 : EM D} {p pos tpos kpos : Pos} {elts : List Expr} {kk : Nat} {kws : List Keyword}
theorem pf_zip (hg : Gl X "zip") (hm : X.mg "zip" = none) (h : PD X W e m) (h2 : PD X W f m2) (hs : starEach [e, f] X.env = [(false, eval e X.env), (false, eval f X.env)] := by rfl) (hs2 : starEach [f] X.env = [(false, eval f X.env)] := by rfl) (h0 : starEach [e, f] X.env = (false, eval e X.env) :: starEach [f] X.env := by rfl) (hpl : (backTo pos (starEach [f] X.env)).any (·.1) = false := by rfl) :
    PF X W (.Tuple elts kk tpos) (.Call (.Name "zip" p) [e, f] [] pos) (e2 m m2 (iZipD false)) := by
  refine PI.weak (HZ.pi_zipN hg hm (pa_cons h (pa_cons h2 pa_nil hs2) (by rw [hs, hs2])) h0 hpl) fun σ H R ⟨μ, env, ah, he, hs, hp⟩ => ?_
  refine ⟨μ, env, ah, he, hs, hp.bind fun d ah1 μ1 x H1 e1 s1 r1 p1 => ?_⟩
  refine tG_next he e1 s1 (p1.bind fun d2 ah2 μ2 y H2 e2 s2 r2 p2 => ?_)
  exact zip_run s2 (Rep.ext (show Rep X.K μ1 H1 d x from r1) e2) (show Rep X.K μ2 H2 d2 y from r2) p2
theorem pf_zipS (hg : Gl X "zip") (hm : X.mg "zip" = none) (h : PD X W e m) (h2 : PD X W f m2) (hk : PKs X W0 kws (aCons (eC (.bl true)) aNil)) (hs : starEach [e, f] X.env = [(false, eval e X.env), (false, eval f X.env)] := by rfl) (hs2 : starEach [f] X.env = [(false, eval f X.env)] := by rfl)
    (he' : backTo pos (starEach [e, f] X.env) = (false, eval e X.env) :: backTo pos (starEach [f] X.env) := by rfl) (hpl : (backTo pos (starEach [e, f] X.env)).any (·.1) = false := by rfl)
    (hall : (backToKw pos (keywordEach kws X.env)).all (·.1.isSome) = true := by rfl) (hnone : (backToKw pos (keywordEach kws X.env)).any (·.1.isNone) = false := by rfl) (hks : (backToKw pos (keywordEach kws X.env)).filterMap (·.1) = (["strict"] : List Str) := by rfl) :
    PF X W (.Tuple elts kk tpos) (.Call (.Name "zip" p) [e, f] kws pos) (e2 m m2 (iZipD true)) := by
  refine PI.weak (HZ.pi_zipS hg hm (pa_cons h (pa_cons h2 pa_nil hs2) (by rw [hs, hs2])) hk.pk he' hpl hall hnone hks) fun σ H R ⟨μ, env, ah, he, hs, hp⟩ => ?_
  refine ⟨μ, env, ah, he, hs, hp.bind fun d ah1 μ1 x H1 e1 s1 r1 p1 => ?_⟩
  refine tG_next he e1 s1 (p1.bind fun d2 ah2 μ2 y H2 e2 s2 r2 p2 => ?_)
  refine ⟨μ2, env, ah2, (he.ext e1).ext e2, s2, fun μ3 zs H3 e3 s3 r3 => ?_⟩
  obtain ⟨v, rfl, rv⟩ := reps1 (show Reps X.K μ3 H3 [.bl true] zs from r3)
  rw [d_bl rv]
  exact ⟨rfl, zip_run s3 (Rep.ext (Rep.ext (show Rep X.K μ1 H1 d x from r1) e2) e3) (Rep.ext (show Rep X.K μ2 H2 d2 y from r2) e3) (Post.ext e3 p2)⟩
end
end HA

/-! HA27: sorted(xs): whole numbers, pairs of whole numbers. -/
namespace HA
open PySem PySem.Spec PyProof.Rows L2
/-- sorted(xs), pairs of whole numbers, wherever these lie -/
def rSortQ (K : PySem.W.Frag) : List V → Hp → VK → Prop := fun vs H Q => ∃ (a : Addr) (xs : List V) (k : V → Int × Int), vs = [V.ref a] ∧ SqL K H a xs ∧ (∀ x ∈ xs, ∃ t, x = V.ref t ∧ SqT K H t [.int (k x).1, .int (k x).2]) ∧
  ∀ ys p, SrtO.Srtd (ltP k) ys → SrtO.Stb (ltP k) ys xs → H p = none → Q (.ref p) (upd H p (.lst ys))
theorem cr_sortQ {X : Cx} : CallR X (.builtin "sorted") (rSortQ X.K) := by
  intro pins s σ H vs us Q I r ⟨a, xs, k, e0, hs, hx, q⟩
  subst e0
  obtain ⟨its, rv, hl, hz⟩ := I.list hs
  obtain ⟨u, rfl, ru⟩ := vals1 r
  obtain rfl : u = Value.ref a := ru
  obtain ⟨e1, e2⟩ := refs_back rv fun x m => let ⟨t, e, _⟩ := hx x m; ⟨t, e⟩
  refine SrtO.sorted_pairsO (k := fun u => k (backV u)) hl.isList (by rw [← rv.length]; exact hz) (fun v hv => ?_) fun h' d out h1 h2 kp hd hn => ?_
  · obtain ⟨t, rfl⟩ := e2 v hv
    obtain ⟨t', e, ht⟩ := hx (V.ref t) (by rw [e1]; exact List.mem_map.mpr ⟨_, hv, rfl⟩)
    cases e
    obtain ⟨its2, r2, ⟨o, ho, hc, n, hd⟩, _⟩ := I.tuple ht
    obtain ⟨u1, u2, rfl, ⟨t1, rfl⟩, ⟨t2, rfl⟩⟩ := vals2 r2
    exact ⟨t, o, t1, t2, n, rfl, ho, hc, hd⟩
  · have h3 : ∀ u ∈ out, ∃ a, u = Value.ref a := fun u hu => e2 u (h2.perm.mem_iff.mp hu)
    obtain ⟨n, hn⟩ := hn
    have hb : SrtO.Stb (ltP k) (out.map backV) xs := by rw [e1]; exact SrtO.Stb.map (ltP_swo k) backV h2
    exact ⟨.ref d, upd H d (.lst (out.map backV)), I.laid (t' := s.toks) kp hd ⟨by rw [hb.len]; exact hz, out, n, vals_back h3, hn⟩, rfl, q _ d (SrtO.srtd_map h1) hb (I.hok.fresh hd)⟩
def pairOf : D → Option (Int × Int)
  | .tup [.int a, .int b] => some (a, b)
  | _ => none
def ofPair (p : Int × Int) : D := .tup [.int p.1, .int p.2]
theorem pairOf_of {d : D} {p : Int × Int} (h : pairOf d = some p) : d = ofPair p := by
  unfold pairOf at h
  split at h
  · cases h; rfl
  · cases h
def lexLe (p q : Int × Int) : Bool := decide (p.1 < q.1 ∨ p.1 = q.1 ∧ p.2 ≤ q.2)
def intLe (p q : Int) : Bool := decide (p ≤ q)
def lSort (ds : List D) (ah : AH) : Res (List D) := match optAll dInt ds with
  | some ns => .ok ((ns.mergeSort intLe).map D.int) ah
  | none => match optAll pairOf ds with
    | some ps => .ok ((ps.mergeSort lexLe).map ofPair) ah
    | none => .stuck
theorem pairs_of : ∀ {ds : List D} {ps : List (Int × Int)}, optAll pairOf ds = some ps → ds = ps.map ofPair
  | [], ps, h => by cases h; rfl
  | d :: ds, ps, h => by
    unfold optAll at h
    split at h
    · rename_i a b ea eb
      cases h
      rw [pairOf_of ea, pairs_of eb]; rfl
    · cases h
theorem lexB_le {p q : Int × Int} (h : SrtO.lexB q p = false) : lexLe p q = true := by
  have := SrtO.lexB_no.mp h
  unfold lexLe
  rw [decide_eq_true_eq]
  omega
theorem lexLe_anti {p q : Int × Int} (h : lexLe p q = true) (h' : lexLe q p = true) : p = q := by
  unfold lexLe at h h'
  rw [decide_eq_true_eq] at h h'
  obtain ⟨a, b⟩ := p
  obtain ⟨c, d⟩ := q
  simp only at h h'
  have : a = c := by omega
  have : b = d := by omega
  simp_all
theorem sort_uniq {α : Type} {le : α → α → Bool} (tr : ∀ a b c, le a b = true → le b c = true → le a c = true) (to : ∀ a b, (le a b || le b a) = true) (an : ∀ a b, le a b = true → le b a = true → a = b) {xs ys : List α} (hp : ys.Perm xs) (hs : ys.Pairwise fun a b => le a b = true) : ys = xs.mergeSort le :=
  List.Perm.eq_of_pairwise (le := fun a b => le a b = true) (fun a b _ _ => an a b) hs (List.pairwise_mergeSort tr to xs) (hp.trans (List.mergeSort_perm xs le).symm)
theorem intLe_t (a b c : Int) : intLe a b = true → intLe b c = true → intLe a c = true := by unfold intLe; simp only [decide_eq_true_eq]; omega
theorem intLe_o (a b : Int) : (intLe a b || intLe b a) = true := by unfold intLe; simp only [Bool.or_eq_true, decide_eq_true_eq]; omega
theorem intLe_a (a b : Int) : intLe a b = true → intLe b a = true → a = b := by unfold intLe; simp only [decide_eq_true_eq]; omega
theorem lexLe_t (a b c : Int × Int) : lexLe a b = true → lexLe b c = true → lexLe a c = true := by unfold lexLe; simp only [decide_eq_true_eq]; omega
theorem lexLe_o (a b : Int × Int) : (lexLe a b || lexLe b a) = true := by unfold lexLe; simp only [Bool.or_eq_true, decide_eq_true_eq]; omega
/-- x is a pair of whole numbers, p -/
def PrAt (K : PySem.W.Frag) (H : Hp) (x : V) (p : Int × Int) : Prop := ∃ t, x = V.ref t ∧ SqT K H t [.int p.1, .int p.2]
inductive PrAll (K : PySem.W.Frag) (H : Hp) : List V → List (Int × Int) → Prop
  | nil : PrAll K H [] []
  | cons {x xs p ps} : PrAt K H x p → PrAll K H xs ps → PrAll K H (x :: xs) (p :: ps)
def rSortR (K : PySem.W.Frag) : List V → Hp → VK → Prop := fun vs H Q => ∃ (a : Addr) (xs : List V) (ps : List (Int × Int)), vs = [V.ref a] ∧ SqL K H a xs ∧ PrAll K H xs ps ∧
  ∀ ys p, PrAll K H ys (ps.mergeSort lexLe) → H p = none → Q (.ref p) (upd H p (.lst ys))
theorem PrAll.map {K : PySem.W.Frag} {H : Hp} {k : V → Int × Int} : ∀ {xs : List V}, (∀ x ∈ xs, PrAt K H x (k x)) → PrAll K H xs (xs.map k)
  | [], _ => .nil
  | x :: xs, h => .cons (h x List.mem_cons_self) (PrAll.map fun y hy => h y (List.mem_cons_of_mem _ hy))
theorem PrAll.of {K : PySem.W.Frag} {H : Hp} {k : V → Int × Int} (hk : ∀ x p, PrAt K H x p → k x = p) : ∀ {xs : List V} {ps : List (Int × Int)}, PrAll K H xs ps → ps = xs.map k ∧ ∀ x ∈ xs, PrAt K H x (k x)
  | [], _, .nil => ⟨rfl, fun _ h => by cases h⟩
  | x :: xs, _ :: ps, .cons h t => by
    obtain ⟨e, q⟩ := PrAll.of hk t
    have e0 := hk _ _ h
    refine ⟨by rw [List.map_cons, e0, e], fun y hy => ?_⟩
    rcases List.mem_cons.mp hy with z | z
    · subst z; rw [e0]; exact h
    · exact q y z
theorem cr_sortR {X : Cx} : CallR X (.builtin "sorted") (rSortR X.K) := by
  intro pins s σ H vs us Q I r ⟨a, xs, ps, e0, hs, hx, q⟩
  have inj : ∀ x p p', PrAt X.K H x p → PrAt X.K H x p' → p = p' := fun x p p' ⟨t, e, h⟩ ⟨t', e', h'⟩ => by
    subst e; cases e'
    have := I.tuple_inj h h'
    obtain ⟨a, b⟩ := p
    obtain ⟨c, d⟩ := p'
    simpa using this
  classical
  let k : V → Int × Int := fun x => if h : ∃ p, PrAt X.K H x p then Classical.choose h else (0, 0)
  have hk : ∀ x p, PrAt X.K H x p → k x = p := fun x p h => by
    have ex : ∃ p, PrAt X.K H x p := ⟨p, h⟩
    show (if h : ∃ p, PrAt X.K H x p then Classical.choose h else (0, 0)) = p
    rw [dif_pos ex]
    exact inj _ _ _ (Classical.choose_spec ex) h
  obtain ⟨e1, h1⟩ := PrAll.of hk hx
  refine cr_sortQ pins s σ H vs us Q I r ⟨a, xs, k, e0, hs, h1, fun ys p hS hB hp => q ys p ?_ hp⟩
  have hm : ∀ y ∈ ys, PrAt X.K H y (k y) := fun y hy => h1 y (hB.perm.mem_iff.mp hy)
  have e2 : ys.map k = ps.mergeSort lexLe := by
    rw [e1]
    refine sort_uniq lexLe_t lexLe_o (fun a b h h' => lexLe_anti h h') (hB.perm.map k) ?_
    exact List.pairwise_map.mpr (hS.imp fun {x y} h => lexB_le h)
  rw [← e2]
  exact PrAll.map hm
theorem PrAll.reps {K : PySem.W.Frag} {μ : List Addr} {H : Hp} : ∀ {xs : List V} {ps : List (Int × Int)}, PrAll K H xs ps → Reps K μ H (ps.map ofPair) xs
  | [], _, .nil => Reps.nil
  | x :: xs, p :: ps, .cons ⟨t, e, h⟩ r => by
    subst e
    refine Reps.cons ?_ (PrAll.reps r)
    unfold ofPair
    simp only [Rep]
    exact ⟨t, _, rfl, h, Reps.cons (by simp only [Rep]) (Reps.cons (by simp only [Rep]) Reps.nil)⟩
theorem Reps.uncons {K : PySem.W.Frag} {μ : List Addr} {H : Hp} {d : D} {ds : List D} {vs : List V} (h : Reps K μ H (d :: ds) vs) : ∃ v ws, vs = v :: ws ∧ Rep K μ H d v ∧ Reps K μ H ds ws := by simpa only [Reps] using h
theorem PrAll.back {K : PySem.W.Frag} {μ : List Addr} {H : Hp} : ∀ {xs : List V} {ps : List (Int × Int)}, Reps K μ H (ps.map ofPair) xs → PrAll K H xs ps
  | [], [], r => .nil
  | [], p :: ps, r => by have := r.length; simp at this
  | x :: xs, [], r => by have := r.length; simp at this
  | x :: xs, p :: ps, r => by
    obtain ⟨v, vs, e, h, t⟩ := Reps.uncons r
    cases e
    obtain ⟨a, ws, rfl, q, rr⟩ := d_tup (show Rep K μ H (.tup [.int p.1, .int p.2]) x from h)
    obtain rfl := Reps.ints (ns := [p.1, p.2]) rr
    exact .cons ⟨a, rfl, q⟩ (PrAll.back t)
section
variable {X : Cx} {W : WX} {e : Expr} {ml : EM (List D)} {p pos : Pos}
theorem pl_sorted (hg : Gl X "sorted") (hm : X.mg "sorted" = none) (he : PM X W e ml) (hs : starEach [e] X.env = (false, eval e X.env) :: starEach [] X.env := by rfl) :
    PL X W (.Call (.Name "sorted" p) [e] [] pos) (e1 ml lSort) := by
  have both : CallR X (.builtin "sorted") (fun vs H Q => rSortedI X.K vs H Q ∨ rSortR X.K vs H Q) := fun pins s σ H vs us Q I r h => h.elim (cr_sortedI pins s σ H vs us Q I r) (cr_sortR pins s σ H vs us Q I r)
  refine PE.weak (pe_callB both hg hm (show bootBuiltins ("sorted" : Str) = some (.builtin "sorted") by decide +kernel) (pa_cons he pa_nil hs) (by decide) (by decide) hs rfl) fun σ H Q ⟨μ, env, ah, hE, S, hp⟩ => ?_
  refine ⟨μ, env, ah, hE, S, hp.bind fun ds ah1 μ1 x H1 e1 s1 r1 p1 => ?_⟩
  obtain ⟨a, vs, rfl, q, r⟩ := r1
  unfold lSort at p1
  split at p1
  · rename_i ns en
    left
    obtain rfl := ints_of en
    obtain rfl := Reps.ints r
    refine ⟨a, ns, rfl, q, fun ns' p hp hs np => ?_⟩
    have : ns' = ns.mergeSort intLe := sort_uniq intLe_t intLe_o intLe_a hp (hs.imp fun {x y} h => by unfold intLe; exact decide_eq_true h)
    subst this
    exact Post.newL p1 s1 (Reps.of_ints _) np
  · split at p1
    · rename_i ps ep
      right
      obtain rfl := pairs_of ep
      exact ⟨a, vs, ps, rfl, q, PrAll.back r, fun ys p hy np => Post.newL p1 s1 hy.reps np⟩
    · exact p1.elim
end
end HA

/-! HA28: x, y = a, b: the names that are stored by an exchange. -/
namespace HA
open PySem PySem.Spec PyProof.Rows L2
theorem par_sw {env : PySem.Env} {x y : Str} {a b : Expr} {px py pt pt2 : Pos} {kt k2 : Nat} (hb : env.blockKind = .function) (hx : (env.kindOf x == some .local) = true) (hy : (env.kindOf y == some .local) = true) (hl : (py.line == px.line) = true)
    (hd : ([x, y] : List Str).eraseDups.length = 2) (h0 : ([a, b].any fun | .Starred .. => true | _ => false) = false) (h1 : [a, b].all (foldedForSure 8) = false) (h2 : [a, b].all (constantsAlone 8) = false) :
    swappedStores [.Tuple [.Name x px, .Name y py] kt pt] (.Tuple [a, b] k2 pt2) env = pure (some [x, y]) := by
  have lx : (px.line == px.line) = true := by simp
  have ln : ([Expr.Name x px, Expr.Name y py].filterMap fun
      | .Name id pos => if env.kindOf id == some .local && pos.line == px.line then some id else none
      | _ => none) = [x, y] := by
    simp only [List.filterMap_cons, List.filterMap_nil, hx, hy, hl, lx, Bool.and_self, if_true]
  unfold swappedStores
  simp only [hb]
  refine (if_neg (by simp)).trans ?_
  refine (if_neg (fun e => Bool.false_ne_true (h0.symm.trans e))).trans ?_
  have l0 : (Option.map (fun z : Expr => z.pos.line) [Expr.Name x px, Expr.Name y py].head?).getD 0 = px.line := rfl
  generalize hF : List.filterMap _ [Expr.Name x px, Expr.Name y py] = F
  obtain rfl : F = [x, y] := hF.symm.trans ln
  refine (if_neg (by rw [hd]; simp)).trans ?_
  refine (if_neg (by rw [h1]; exact Bool.false_ne_true)).trans ?_
  rw [h2]
  rfl
/-- x, y = a, b -/
theorem pz_par2W {X : Cx} {W : WX} {ml : EM (List D)} {pos : Pos} {i j : Nat} {x y : Str} {a b : Expr} {px py pt pt2 : Pos} {kt k2 : Nat} (hc : X.calm = true) (hN : X.N.Nodup) (hi : X.N[i]? = some x) (hj : X.N[j]? = some y) (hij : i ≠ j) (hx : X.env.scope.names.lookup x = some .local) (hy : X.env.scope.names.lookup y = some .local) (ha : PAs X W [a, b] ml)
    (hb : X.env.blockKind = .function) (hl : (py.line == px.line) = true)
    (hd : ([x, y] : List Str).eraseDups.length = 2) (h0 : ([a, b].any fun | .Starred .. => true | _ => false) = false) (h1 : [a, b].all (foldedForSure 8) = false) (h2 : [a, b].all (constantsAlone 8) = false) (hs : swapsWithSole [.Tuple [.Name x px, .Name y py] kt pt] (.Tuple [a, b] k2 pt2) pos.line X.env = pure false := by rfl) :
    PZ X W (.Assign [.Tuple [.Name x px, .Name y py] kt pt] (.Tuple [a, b] k2 pt2) pos) (sPar2 i j ml) :=
  pz_par2 hc hN hi hj hij hx hy ha (par_sw hb (by rw [show X.env.kindOf x = some .local from hx]; rfl) (by rw [show X.env.kindOf y = some .local from hy]; rfl) hl hd h0 h1 h2) hs
theorem names_short {f : Expr → Option Str} : ∀ {ts : List Expr}, (∃ t ∈ ts, f t = none) → (ts.filterMap f).length < ts.length
  | [], h => by obtain ⟨t, ht, _⟩ := h; cases ht
  | t :: ts, h => by
    rw [List.filterMap_cons, List.length_cons]
    cases e : f t with
    | none => exact Nat.lt_succ_of_le (List.length_filterMap_le ..)
    | some y =>
      obtain ⟨u, hu, he⟩ := h
      rcases List.mem_cons.mp hu with z | z
      · subst z; rw [e] at he; cases he
      · exact Nat.succ_lt_succ (names_short ⟨u, z, he⟩)
/-- one of the names is no plain local one: nothing is exchanged -/
theorem par_none {env : PySem.Env} {ts vs : List Expr} {kt k2 : Nat} {pt pt2 px : Pos} {x : Str} (hm : Expr.Name x px ∈ ts) (hk : (env.kindOf x == some .local) = false) :
    swappedStores [.Tuple ts kt pt] (.Tuple vs k2 pt2) env = pure none := by
  unfold swappedStores
  split
  · rename_i ts' vs' e
    cases e
    split
    · rfl
    · split
      · rfl
      · refine if_pos ?_
        rw [Bool.or_eq_true]
        left
        have : (ts.filterMap fun
          | .Name id pos => if env.kindOf id == some .local && pos.line == (ts.head?.map (·.pos.line)).getD 0 then some id else none
          | _ => none).length < ts.length := names_short ⟨_, hm, by simp only [hk, Bool.false_and]; rfl⟩
        rw [bne_iff_ne]
        exact Nat.ne_of_lt this
  · rename_i h
    exact (h ts vs rfl).elim
theorem pz_asgT {X : Cx} {W : WX} {m : EM D} {pos : Pos} {tsE vs : List Expr} {kt k2 : Nat} {pt pt2 px : Pos} {x : Str} {t : TM} {ts : List Nat} (h : PD X W (.Tuple vs k2 pt2) m) (hg : PT1 X (.Tuple tsE kt pt) ts t) (hm : Expr.Name x px ∈ tsE) (hx : X.env.scope.names.lookup x = some .cell) (hs : swapsWithSole [.Tuple tsE kt pt] (.Tuple vs k2 pt2) pos.line X.env = pure false := by rfl) (h1 : (assignEach [.Tuple tsE kt pt] X.env).map (·.2) = [assign (.Tuple tsE kt pt) X.env] := by rfl) :
    PZ X W (.Assign [.Tuple tsE kt pt] (.Tuple vs k2 pt2) pos) (sAsg m t) :=
  pz_asg h hg hs (par_none hm (by rw [show X.env.kindOf x = some .cell from hx]; rfl)) h1
end HA

/-! HD: the decks: what a draw comes to. -/
namespace HA
open PySem PySem.Spec PyProof.Rows L2

/-- what has been drawn from -/
structure Dk where
  cells : List Int
  at_ : Int
  sum : Int
structure Dk.Ok (d : Dk) : Prop where
  len : d.cells.length ≤ 64
  lo : 0 ≤ d.at_
  hi : d.at_ < 2 ^ 100
/-! ### lists of numbers as data -/
theorem optAll_ints (ah : AH) (n : Nat) : ∀ cs : List Int, optAll (toP ah (n + 1)) (cs.map D.int) = some (cs.map PyData.int)
  | [] => rfl
  | c :: cs => by
    simp only [List.map_cons, optAll, optAll_ints ah n cs]
    simp [toP]
theorem lay_ints : ∀ cs : List Int, PyData.canLayAll0 (cs.map PyData.int) = true
  | [] => rfl
  | c :: cs => by simp [PyData.canLayAll0, PyData.canLay0, lay_ints cs]
theorem depth_ints : ∀ cs : List Int, PyData.depthAll (cs.map PyData.int) = 0
  | [] => rfl
  | c :: cs => by simp [PyData.depthAll, PyData.depth, depth_ints cs]
theorem shaped_ints (cs : List Int) : SeqAt.shaped (.list (cs.map PyData.int)) = true := by
  unfold SeqAt.shaped
  simp [PyData.canLay0, lay_ints, PyData.depth, depth_ints]
theorem lNil_ints (neg : Bool) (cs : List Int) (ah : AH) : lNil neg (cs.map D.int) ah = .ok (if cs = [] then !neg else neg) ah := by
  cases cs with
  | nil => rfl
  | cons c cs =>
    show (match optAll (toP ah 62) ((c :: cs).map D.int) with
      | some ps => if SeqAt.shaped (.list ps) = true then Res.ok neg ah else .stuck
      | none => .stuck) = _
    rw [optAll_ints ah 61]
    simp only [shaped_ints, if_true]
    simp

/-! ### the deck that is a dict -/
def mixA (seed at_ b : Int) : Int :=
  let n1 := (seed % 2147483647 * 48271 + 69621 * at_ * at_ + 7919) % 2147483629
  let n2 := n1 * n1 % 2147483587
  n2 * (n2 + 39373) % 2147483563 / 64 % b
def Dk.drawA (d : Dk) (b : Int) : Int × Dk := match d.cells with
  | [] => (mixA (d.sum + (d.at_ + 1)) (d.at_ + 1) b, ⟨[], d.at_ + 1, d.sum⟩)
  | c :: r => if c ≥ 10 ^ 18 then (c % b, ⟨c / b :: r, d.at_ + 1, d.sum⟩) else (mixA c (d.at_ + 1) b, ⟨r, d.at_ + 1, d.sum⟩)
def hA (S : List D) (d : Dk) (rest : AH) : AH := .ro S :: .lst (d.cells.map D.int) :: .dK [(.inr "cells", .ref 1), (.inr "at", .int d.at_), (.inr "sum", .int d.sum)] :: rest
def b_tailA : SM := (sSeq (sAsg (e2 (e2 (e2 (e2 (e2 (eVar 4) (eC (.int 2147483647)) oMod) (eC (.int 48271)) oMul) (e2 (e2 (eC (.int 69621)) (eVar 2) oMul) (eVar 2) oMul) oAdd) (eC (.int 7919)) oAdd) (eC (.int 2147483629)) oMod) (gSet 5)) (sSeq (sAsg (e2 (e2 (eVar 5) (eVar 5) oMul) (eC (.int 2147483587)) oMod) (gSet 5)) (sRet (e2 (e2 (e2 (e2 (eVar 5) (e2 (eVar 5) (eC (.int 39373)) oAdd) oMul) (eC (.int 2147483563)) oMod) (eC (.int 64)) oFdiv) (eVar 1) oMod))))
def b_drawA : SM := (sSeq (sPut (eVar 0) (eC (.str "at")) (e2 (e2 (eVar 0) (eC (.str "at")) oGet) (eC (.int 1)) oAdd)) (sSeq (sAsg (e2 (eVar 0) (eC (.str "at")) oGet) (gSet 2)) (sSeq (sAsg (e2 (eVar 0) (eC (.str "cells")) oGet) (gSet 3)) (sSeq (sAsg (e2 (e2 (eVar 0) (eC (.str "sum")) oGet) (eVar 2) oAddA) (gSet 4)) (sSeq (sIf (bNil true (e1 (eVar 3) listOf)) (sSeq (sAsg (eMt (eVar 3) (aCons (eC (.int 0)) aNil) mPop) (gSet 4)) (sIf (e2 (eVar 4) (e2 (eC (.int 10)) (eC (.int 18)) oPow) cGe) (sSeq (sExpr (eMt (eVar 3) (aCons (eC (.int 0)) (aCons (e2 (eVar 4) (eVar 1) oFdiv) aNil)) mInsert)) (sRet (e2 (eVar 4) (eVar 1) oMod))) sSkip)) sSkip) b_tailA)))))
def m_drawA : List D → AH → Res D := fnM 6 2 b_drawA
theorem Dk.drawA_ok {d : Dk} (h : d.Ok) {b : Int} (n : Nat) (hn : d.at_ < n) (h' : n < 2 ^ 90) : (d.drawA b).2.Ok := by
  have l := h.len
  have lo := h.lo
  unfold Dk.drawA
  cases e : d.cells with
  | nil => exact ⟨by simp, by simp; omega, by simp; omega⟩
  | cons c r =>
    rw [e] at l
    simp at l
    dsimp only
    split
    · exact ⟨by simp; omega, by simp; omega, by simp; omega⟩
    · exact ⟨by simp; omega, by simp; omega, by simp; omega⟩
theorem Dk.drawA_at {d : Dk} {b : Int} : (d.drawA b).2.at_ = d.at_ + 1 := by
  unfold Dk.drawA
  cases e : d.cells with
  | nil => rfl
  | cons c r => dsimp only; split <;> rfl
theorem mixA_in {s a b : Int} (h : 0 < b) : 0 ≤ mixA s a b ∧ mixA s a b < b := by
  unfold mixA
  exact ⟨Int.emod_nonneg _ (by omega), Int.emod_lt_of_pos _ h⟩
theorem Dk.drawA_in {d : Dk} {b : Int} (h : 0 < b) : 0 ≤ (d.drawA b).1 ∧ (d.drawA b).1 < b := by
  unfold Dk.drawA
  cases e : d.cells with
  | nil => exact mixA_in h
  | cons c r =>
    dsimp only
    split
    · exact ⟨Int.emod_nonneg _ (by omega), Int.emod_lt_of_pos _ h⟩
    · exact mixA_in h
theorem draw_tailA {s a b : Int} {x0 x3 : Option D} {ah : AH} (h1 : 0 < b) (h2 : b < 2 ^ 1000) (h3 : 0 ≤ a) (h4 : a < 2 ^ 101) :
    b_tailA [x0, some (.int b), some (.int a), x3, some (.int s), none] ah = .rt (.int (mixA s a b)) ah := by
  unfold mixA b_tailA
  generalize hn1 : (s % 2147483647 * 48271 + 69621 * a * a + 7919) % 2147483629 = n1
  have b1 : 0 ≤ s % 2147483647 := Int.emod_nonneg _ (by decide)
  have b2 : s % 2147483647 < 2147483647 := Int.emod_lt_of_pos _ (by decide)
  have b3 : 0 ≤ n1 := by rw [← hn1]; exact Int.emod_nonneg _ (by decide)
  have b4 : n1 < 2147483629 := by rw [← hn1]; exact Int.emod_lt_of_pos _ (by decide)
  generalize hn2 : n1 * n1 % 2147483587 = n2
  have b5 : 0 ≤ n2 := by rw [← hn2]; exact Int.emod_nonneg _ (by decide)
  have b6 : n2 < 2147483587 := by rw [← hn2]; exact Int.emod_lt_of_pos _ (by decide)
  have m1 : oMul (.int (s % 2147483647)) (.int 48271) ah = .ok (.int (s % 2147483647 * 48271)) ah := oMul_int ah (by omega) (by decide)
  have m2 : oMul (.int 69621) (.int a) ah = .ok (.int (69621 * a)) ah := oMul_int ah (by decide) (by omega)
  have m3 : oMul (.int (69621 * a)) (.int a) ah = .ok (.int (69621 * a * a)) ah := oMul_int ah (by omega) (by omega)
  have m4 : oMul (.int n1) (.int n1) ah = .ok (.int (n1 * n1)) ah := oMul_int ah (by omega) (by omega)
  have m5 : oMul (.int n2) (.int (n2 + 39373)) ah = .ok (.int (n2 * (n2 + 39373))) ah := oMul_int ah (by omega) (by omega)
  have q1 : ∀ i : Int, oMod (.int i) (.int 2147483647) ah = .ok (.int (i % 2147483647)) ah := fun i => oMod_int ah (by decide)
  have q2 : ∀ i : Int, oMod (.int i) (.int 2147483629) ah = .ok (.int (i % 2147483629)) ah := fun i => oMod_int ah (by decide)
  have q3 : ∀ i : Int, oMod (.int i) (.int 2147483587) ah = .ok (.int (i % 2147483587)) ah := fun i => oMod_int ah (by decide)
  have q4 : ∀ i : Int, oMod (.int i) (.int 2147483563) ah = .ok (.int (i % 2147483563)) ah := fun i => oMod_int ah (by decide)
  have q5 : ∀ i : Int, oMod (.int i) (.int b) ah = .ok (.int (i % b)) ah := fun i => oMod_int ah h1
  have q6 : ∀ i : Int, oFdiv (.int i) (.int 64) ah = .ok (.int (i / 64)) ah := fun i => oFdiv_int ah (by decide) (by decide)
  simp [q1, m1, m2, m3, q2, hn1, m4, q3, hn2, m5, q4, q6, q5]
section
variable {S : List D} {d : Dk} {rest : AH}
theorem hA_cells : oGet (.ref 2) (.str "cells") (hA S d rest) = .ok (.ref 1) (hA S d rest) := by rfl
theorem hA_at : oGet (.ref 2) (.str "at") (hA S d rest) = .ok (.int d.at_) (hA S d rest) := by rfl
theorem hA_sum : oGet (.ref 2) (.str "sum") (hA S d rest) = .ok (.int d.sum) (hA S d rest) := by rfl
theorem hA_put {mo mv : EM D} {env : Env} {v : Int} (h1 : mv env (hA S d rest) = .ok (.int v) (hA S d rest)) (h2 : mo env (hA S d rest) = .ok (.ref 2) (hA S d rest)) : sPut mo (eC (.str "at")) mv env (hA S d rest) = .nx env (hA S ⟨d.cells, v, d.sum⟩ rest) := by
  unfold sPut
  rw [h1]
  simp only [thenS_ok]
  rw [h2]
  rfl
theorem hA_list : listOf (.ref 1) (hA S d rest) = .ok (d.cells.map D.int) (hA S d rest) := rfl
theorem hA_isList : isList (.ref 1) (hA S d rest) = true := rfl
theorem hA_pop {c : Int} {r : List Int} {a s : Int} : mPop (.ref 1) [.int 0] (hA S ⟨c :: r, a, s⟩ rest) = .ok (.int c) (hA S ⟨r, a, s⟩ rest) := by
  simp [mPop, hA, seqIndex?]
theorem hA_ins {v : Int} (h : d.cells.length < line) : mInsert (.ref 1) [.int 0, .int v] (hA S d rest) = .ok .non (hA S ⟨v :: d.cells, d.at_, d.sum⟩ rest) := by
  simp [mInsert, hA, h]
theorem hA_fin {d' : Dk} (x : D) : fin (hA S d rest) x (hA S d' rest) = .ok x (hA S d' rest) := fin_len x rfl
end
theorem draw_A {S : List D} {d : Dk} {rest : AH} {b : Int} (h : d.Ok) (h1 : 0 < b) (h2 : b < 2 ^ 1000) : m_drawA [.ref 2, .int b] (hA S d rest) = .ok (.int (d.drawA b).1) (hA S (d.drawA b).2 rest) := by
  have p18 : ∀ ah, oPow (.int 10) (.int 18) ah = .ok (.int (10 ^ 18)) ah := fun ah => oPow_int ah (by decide)
  have lo := h.lo
  have hi := h.hi
  have len := h.len
  obtain ⟨cells, a, s⟩ := d
  unfold m_drawA b_drawA
  rw [fnM_2, sSeq_def, hA_put (v := a + 1) (by simp [hA_at]) (by simp)]
  dsimp only at lo hi len
  have tl := fun (s : Int) (x0 x3 : Option D) (ah : AH) => draw_tailA (s := s) (x0 := x0) (x3 := x3) (ah := ah) h1 h2 (a := a + 1) (by omega) (by omega)
  have ci : ∀ (neg : Bool) (cs : List Int) (ah : AH), lNil neg (cs.map D.int) ah = .ok (if cs = [] then !neg else neg) ah := lNil_ints
  cases cells with
  | nil => simp [hA_at, hA_cells, hA_sum, hA_list, ci, tl, hA_fin, Dk.drawA, -List.map_nil]
  | cons c r =>
    have fd : ∀ ah, oFdiv (.int c) (.int b) ah = .ok (.int (c / b)) ah := fun ah => oFdiv_int ah h1 h2
    have md : ∀ ah, oMod (.int c) (.int b) ah = .ok (.int (c % b)) ah := fun ah => oMod_int ah h1
    by_cases hc : (1000000000000000000 : Int) ≤ c
    · simp [hA_at, hA_cells, hA_sum, hA_list, ci, tl, hA_fin, Dk.drawA, hA_isList, hA_pop, p18, hc, fd, md, -List.map_cons]
      rw [hA_ins (d := ⟨r, a + 1, s⟩) (by simp at len; show r.length < 16777216; omega)]
      simp [md, hA_fin]
    · simp [hA_at, hA_cells, hA_sum, hA_list, ci, tl, hA_fin, Dk.drawA, hA_isList, hA_pop, p18, hc, -List.map_cons]
/-! drawing, as far as laws need it -/
def DOk (n : Nat) (d : Dk) : Prop := d.cells.length ≤ 64 ∧ 0 ≤ d.at_ ∧ d.at_ ≤ n
theorem DOk.mono {m n : Nat} {d : Dk} (h : DOk m d) (l : m ≤ n) : DOk n d := ⟨h.1, h.2.1, by have := h.2.2; omega⟩
theorem drawA' {n : Nat} {d : Dk} {b : Int} (h : DOk n d) (hn : n < 10 ^ 9) (h1 : 0 < b) (h2 : b < 10 ^ 9) : ∃ (v : Nat) (d' : Dk), (∀ S rest, m_drawA [.ref 2, .int b] (hA S d rest) = .ok (.int v) (hA S d' rest)) ∧ (v : Int) < b ∧ DOk (n + 1) d' := by
  obtain ⟨a1, a2, a3⟩ := h
  have ok : d.Ok := ⟨a1, a2, by omega⟩
  have hi := Dk.drawA_in (d := d) h1
  refine ⟨(d.drawA b).1.toNat, (d.drawA b).2, fun S rest => ?_, ?_, ?_⟩
  · rw [draw_A ok h1 (by omega)]
    rw [Int.toNat_of_nonneg hi.1]
  · rw [Int.toNat_of_nonneg hi.1]; exact hi.2
  · have := Dk.drawA_ok ok (b := b) (n + 1) (by omega) (by omega)
    have e := Dk.drawA_at (d := d) (b := b)
    exact ⟨this.len, this.lo, by rw [e]; omega⟩
theorem hA_app (S : List D) (d : Dk) (rest x : AH) : hA S d rest ++ x = hA S d (rest ++ x) := rfl
theorem hA_length (S : List D) (d : Dk) (rest : AH) : (hA S d rest).length = rest.length + 3 := rfl
theorem hA_get (S : List D) (d : Dk) (rest : AH) (i : Nat) : (hA S d rest)[i + 3]? = rest[i]? := rfl
/-- the heap without the deck -/
def dead (rest : AH) : AH := .ins 0 [] :: .ins 0 [] :: .ins 0 [] :: rest
theorem dead_le {S : List D} {d : Dk} {rest x : AH} : Le (dead rest) (hA S d (rest ++ x)) := fun i o e v => by
  match i with
  | 0 => simp [dead] at e; subst e; cases v
  | 1 => simp [dead] at e; subst e; cases v
  | 2 => simp [dead] at e; subst e; cases v
  | i + 3 =>
    rw [hA_get]
    have e' : rest[i]? = some o := e
    rw [List.getElem?_append_left (List.getElem?_eq_some_iff.mp e').1]
    exact e'
theorem dead_le0 {S : List D} {d : Dk} {rest : AH} : Le (dead rest) (hA S d rest) := by
  have := dead_le (S := S) (d := d) (rest := rest) (x := [])
  rwa [List.append_nil] at this
theorem dead_app {rest x : AH} : Le (dead rest) (dead (rest ++ x)) := Le.app (dead rest) x
theorem dead_get (rest : AH) (i : Nat) : (dead rest)[i + 3]? = rest[i]? := rfl
/-! making the deck -/
def b_deckA : SM := (sSeq (sAsg (eNew (e1 (e3 (eVar 0) (oPart none) (oPart (some (eC (.int 63)))) fun d lo hi ah => (listOf d ah).bind fun ds ah => lCut ds lo hi ah) sList)) (gSet 1)) (sRet (eDisp [((eC (.str "cells")), (eVar 1)), ((eC (.str "at")), (eC (.int 0))), ((eC (.str "sum")), (e2 (e2 (e1 (e1 (eVar 1) listOf) sSum) (eC (.int 2147483629)) oMod) (e2 (eC (.int 17)) (e1 (aCons (eVar 1) aNil) oLenA) oMul) oAdd))])))
def m_deckA : List D → AH → Res D := fnM 2 1 b_deckA
def dkA (ns : List Int) : Dk := ⟨ns, 0, ns.sum % 2147483629 + 17 * ns.length⟩
theorem dkA_ok {ns : List Int} (h : ns.length ≤ 63) : DOk 0 (dkA ns) := ⟨by show ns.length ≤ 64; omega, Int.le_refl _, Int.le_refl _⟩
theorem optAll_dInt : ∀ ns : List Int, optAll dInt (ns.map D.int) = some ns
  | [] => rfl
  | n :: ns => by simp [optAll, optAll_dInt ns, dInt]
theorem deck_A {ns : List Int} (h : ns.length ≤ 63) : m_deckA [.ref 0] (ah0 ns) = .ok (.ref 2) (hA (ns.map D.int) (dkA ns) []) := by
  have c1 : cut (ns.map D.int) none (some 63) = ns.map D.int := by
    unfold cut
    rw [HT.sIx_none, show (63 : Int) = ((63 : Nat) : Int) from rfl, HT.sIx_nat, List.drop_zero, List.take_of_length_le (by simp; omega)]
  have md : ∀ (i : Int) (ah : AH), oMod (.int i) (.int 2147483629) ah = .ok (.int (i % 2147483629)) ah := fun i ah => oMod_int ah (by decide)
  have ml : ∀ (ah : AH), oMul (.int 17) (.int ns.length) ah = .ok (.int (17 * ns.length)) ah := fun ah => oMul_int ah (by decide) (by omega)
  have n1 : ¬ (Str.ofString "cells" = Str.ofString "at") := by decide
  have n2 : ¬ (Str.ofString "cells" = Str.ofString "sum") := by decide
  have n3 : ¬ (Str.ofString "at" = Str.ofString "sum") := by decide
  unfold m_deckA b_deckA
  rw [fnM_1]
  simp [listOf, listAt, lCut, c1, sList, sSum, optAll_dInt, md, oLenA, oLen, ml, optAll, dKey, dispD, putD, n1, n2, n3]
  unfold fin
  simp [sound, D.und, AObj.und, D.unds, hA, dkA]
end HA

/-! HD2: the deck that is a list: what a draw comes to. -/
namespace HA
open PySem PySem.Spec PyProof.Rows L2
def mixB (seed at_ b : Int) : Int :=
  let n1 := (seed % 2147483629 + 7919 * at_ * at_ + 1) * 48271 % 2147483647
  let n2 := (n1 * n1 + 69621 * n1 + at_) % 2147483587
  n2 * (n2 / 5 + 39373) % 2147483579 / 64 % b
def hB (S : List D) (d : Dk) (rest : AH) : AH := .ro S :: .lst (d.cells.map D.int) :: .lst [.ref 1, .int d.sum, .int d.at_] :: rest
def b_tailB : SM := (sSeq (sAsg (e2 (e2 (e2 (e2 (e2 (eVar 2) (eC (.int 2147483629)) oMod) (e2 (e2 (eC (.int 7919)) (e2 (eVar 0) (eC (.int 2)) oIx) oMul) (e2 (eVar 0) (eC (.int 2)) oIx) oMul) oAdd) (eC (.int 1)) oAdd) (eC (.int 48271)) oMul) (eC (.int 2147483647)) oMod) (gSet 3)) (sSeq (sAsg (e2 (e2 (e2 (e2 (eVar 3) (eVar 3) oMul) (e2 (eC (.int 69621)) (eVar 3) oMul) oAdd) (e2 (eVar 0) (eC (.int 2)) oIx) oAdd) (eC (.int 2147483587)) oMod) (gSet 3)) (sRet (e2 (e2 (e2 (e2 (eVar 3) (e2 (e2 (eVar 3) (eC (.int 5)) oFdiv) (eC (.int 39373)) oAdd) oMul) (eC (.int 2147483579)) oMod) (eC (.int 64)) oFdiv) (eVar 1) oMod))))
def b_drawB : SM := (sSeq (sSetL (eVar 0) (eC (.int 2)) (e2 (e2 (eVar 0) (eC (.int 2)) oIx) (eC (.int 1)) oAdd)) (sSeq (sAsg (e2 (eVar 0) (eC (.int 1)) oIx) (gSet 2)) (sSeq (sIf (bNil true (e1 (e2 (eVar 0) (eC (.int 0)) oIx) listOf)) (sSeq (sAsg (eMt (e2 (eVar 0) (eC (.int 0)) oIx) aNil mPop) (gSet 2)) (sIf (e2 (eVar 2) (e2 (eC (.int 10)) (eC (.int 18)) oPow) cGe) (sSeq (sExpr (eMt (e2 (eVar 0) (eC (.int 0)) oIx) (aCons (e2 (eVar 2) (eVar 1) oFdiv) aNil) mAppend)) (sRet (e2 (eVar 2) (eVar 1) oMod))) sSkip)) sSkip) b_tailB)))
def m_drawB : List D → AH → Res D := fnM 4 2 b_drawB
theorem mixB_in {s a b : Int} (h : 0 < b) : 0 ≤ mixB s a b ∧ mixB s a b < b := by
  unfold mixB
  exact ⟨Int.emod_nonneg _ (by omega), Int.emod_lt_of_pos _ h⟩
section
variable {S : List D} {d : Dk} {rest : AH}
theorem hB_cells : oIx (.ref 2) (.int 0) (hB S d rest) = .ok (.ref 1) (hB S d rest) := oIx_lst (i := 0) (by rfl) rfl
theorem hB_sum : oIx (.ref 2) (.int 1) (hB S d rest) = .ok (.int d.sum) (hB S d rest) := oIx_lst (i := 1) (by rfl) rfl
theorem hB_at : oIx (.ref 2) (.int 2) (hB S d rest) = .ok (.int d.at_) (hB S d rest) := oIx_lst (i := 2) (by rfl) rfl
theorem hB_put {mo mv : EM D} {env : Env} {v : Int} (h1 : mv env (hB S d rest) = .ok (.int v) (hB S d rest)) (h2 : mo env (hB S d rest) = .ok (.ref 2) (hB S d rest)) : sSetL mo (eC (.int 2)) mv env (hB S d rest) = .nx env (hB S ⟨d.cells, v, d.sum⟩ rest) := by
  unfold sSetL
  rw [h1]
  simp only [thenS_ok]
  rw [h2]
  rfl
theorem hB_list : listOf (.ref 1) (hB S d rest) = .ok (d.cells.map D.int) (hB S d rest) := rfl
theorem hB_isList : isList (.ref 1) (hB S d rest) = true := rfl
theorem hB_pop {c : Int} {r : List Int} {a s : Int} : mPop (.ref 1) [] (hB S ⟨r ++ [c], a, s⟩ rest) = .ok (.int c) (hB S ⟨r, a, s⟩ rest) := by
  simp [mPop, hB]
theorem hB_app1 {v : Int} (h : d.cells.length < line) : mAppend (.ref 1) [.int v] (hB S d rest) = .ok .non (hB S ⟨d.cells ++ [v], d.at_, d.sum⟩ rest) := by
  simp [mAppend, hB, h]
theorem hB_fin {d' : Dk} (x : D) : fin (hB S d rest) x (hB S d' rest) = .ok x (hB S d' rest) := fin_len x rfl
end
theorem draw_tailB {S : List D} {rest : AH} {cells : List Int} {s a b u : Int} (h1 : 0 < b) (h2 : b < 2 ^ 1000) (h3 : 0 ≤ a) (h4 : a < 2 ^ 101) :
    b_tailB [some (.ref 2), some (.int b), some (.int s), none] (hB S ⟨cells, a, u⟩ rest) = .rt (.int (mixB s a b)) (hB S ⟨cells, a, u⟩ rest) := by
  unfold mixB b_tailB
  have ha : oIx (.ref 2) (.int 2) (hB S ⟨cells, a, u⟩ rest) = .ok (.int a) (hB S ⟨cells, a, u⟩ rest) := hB_at
  generalize hB S ⟨cells, a, u⟩ rest = ah at ha ⊢
  generalize hn1 : (s % 2147483629 + 7919 * a * a + 1) * 48271 % 2147483647 = n1
  have b1 : 0 ≤ s % 2147483629 := Int.emod_nonneg _ (by decide)
  have b2 : s % 2147483629 < 2147483629 := Int.emod_lt_of_pos _ (by decide)
  have b3 : 0 ≤ n1 := by rw [← hn1]; exact Int.emod_nonneg _ (by decide)
  have b4 : n1 < 2147483647 := by rw [← hn1]; exact Int.emod_lt_of_pos _ (by decide)
  generalize hn2 : (n1 * n1 + 69621 * n1 + a) % 2147483587 = n2
  have b5 : 0 ≤ n2 := by rw [← hn2]; exact Int.emod_nonneg _ (by decide)
  have b6 : n2 < 2147483587 := by rw [← hn2]; exact Int.emod_lt_of_pos _ (by decide)
  have b7 : 0 ≤ 7919 * a * a := Int.mul_nonneg (by omega) h3
  have b8 : 7919 * a * a < 2 ^ 300 := by
    have x1 : 7919 * a ≤ 7919 * 2 ^ 101 := by omega
    have x2 : 7919 * a * a ≤ 7919 * 2 ^ 101 * 2 ^ 101 := Int.mul_le_mul x1 (by omega) h3 (by decide)
    exact Int.lt_of_le_of_lt x2 (by decide)
  have m1 : oMul (.int 7919) (.int a) ah = .ok (.int (7919 * a)) ah := oMul_int ah (by decide) (by omega)
  have m2 : oMul (.int (7919 * a)) (.int a) ah = .ok (.int (7919 * a * a)) ah := oMul_int ah (by omega) (by omega)
  have m3 : oMul (.int (s % 2147483629 + 7919 * a * a + 1)) (.int 48271) ah = .ok (.int ((s % 2147483629 + 7919 * a * a + 1) * 48271)) ah := oMul_int ah (by omega) (by decide)
  have m4 : oMul (.int n1) (.int n1) ah = .ok (.int (n1 * n1)) ah := oMul_int ah (by omega) (by omega)
  have m5 : oMul (.int 69621) (.int n1) ah = .ok (.int (69621 * n1)) ah := oMul_int ah (by decide) (by omega)
  have m6 : oMul (.int n2) (.int (n2 / 5 + 39373)) ah = .ok (.int (n2 * (n2 / 5 + 39373))) ah := oMul_int ah (by omega) (by omega)
  have q1 : ∀ i : Int, oMod (.int i) (.int 2147483629) ah = .ok (.int (i % 2147483629)) ah := fun i => oMod_int ah (by decide)
  have q2 : ∀ i : Int, oMod (.int i) (.int 2147483647) ah = .ok (.int (i % 2147483647)) ah := fun i => oMod_int ah (by decide)
  have q3 : ∀ i : Int, oMod (.int i) (.int 2147483587) ah = .ok (.int (i % 2147483587)) ah := fun i => oMod_int ah (by decide)
  have q4 : ∀ i : Int, oMod (.int i) (.int 2147483579) ah = .ok (.int (i % 2147483579)) ah := fun i => oMod_int ah (by decide)
  have q5 : ∀ i : Int, oMod (.int i) (.int b) ah = .ok (.int (i % b)) ah := fun i => oMod_int ah h1
  have q6 : ∀ i : Int, oFdiv (.int i) (.int 64) ah = .ok (.int (i / 64)) ah := fun i => oFdiv_int ah (by decide) (by decide)
  have q7 : ∀ i : Int, oFdiv (.int i) (.int 5) ah = .ok (.int (i / 5)) ah := fun i => oFdiv_int ah (by decide) (by decide)
  simp [ha, q1, m1, m2, m3, q2, hn1, m4, m5, q3, hn2, q7, m6, q4, q6, q5]
theorem drawB' {n : Nat} {d : Dk} {b : Int} (h : DOk n d) (hn : n < 10 ^ 9) (h1 : 0 < b) (h2 : b < 10 ^ 9) : ∃ (v : Nat) (d' : Dk), (∀ S rest, m_drawB [.ref 2, .int b] (hB S d rest) = .ok (.int v) (hB S d' rest)) ∧ (v : Int) < b ∧ DOk (n + 1) d' := by
  have p18 : ∀ ah, oPow (.int 10) (.int 18) ah = .ok (.int (10 ^ 18)) ah := fun ah => oPow_int ah (by decide)
  obtain ⟨len, lo, hi⟩ := h
  obtain ⟨cells, a, u⟩ := d
  dsimp only at len lo hi
  have ci : ∀ (neg : Bool) (cs : List Int) (ah : AH), lNil neg (cs.map D.int) ah = .ok (if cs = [] then !neg else neg) ah := lNil_ints
  have nat : ∀ i : Int, 0 ≤ i → ((i.toNat : Nat) : Int) = i := fun i h => Int.toNat_of_nonneg h
  rcases List.eq_nil_or_concat cells with rfl | ⟨r, c, rfl⟩
  · have mi := mixB_in (s := u) (a := a + 1) h1
    refine ⟨(mixB u (a + 1) b).toNat, ⟨[], a + 1, u⟩, fun S rest => ?_, by rw [nat _ mi.1]; exact mi.2, by show (0:Nat) ≤ 64; decide, by show 0 ≤ a + 1; omega, by show a + 1 ≤ ((n + 1 : Nat) : Int); omega⟩
    have tl := draw_tailB (S := S) (rest := rest) (cells := []) (s := u) (a := a + 1) (u := u) h1 (by omega) (by omega) (by omega)
    unfold m_drawB b_drawB
    rw [fnM_2, sSeq_def, hB_put (v := a + 1) (by simp [hB_at]) (by simp), nat _ mi.1]
    simp [hB_sum, hB_cells, hB_list, ci, tl, hB_fin, -List.map_nil]
  · have md : ∀ ah, oMod (.int c) (.int b) ah = .ok (.int (c % b)) ah := fun ah => oMod_int ah h1
    have fd : ∀ ah, oFdiv (.int c) (.int b) ah = .ok (.int (c / b)) ah := fun ah => oFdiv_int ah h1 (by omega)
    have nn : ¬ (r ++ [c] = []) := by simp
    rw [List.concat_eq_append] at len ⊢
    rw [List.length_append, List.length_singleton] at len
    by_cases hc : (1000000000000000000 : Int) ≤ c
    · have m0 := Int.emod_nonneg c (show b ≠ 0 by omega)
      have m1 := Int.emod_lt_of_pos c h1
      refine ⟨(c % b).toNat, ⟨r ++ [c / b], a + 1, u⟩, fun S rest => ?_, by rw [nat _ m0]; exact m1, by show (r ++ [c / b]).length ≤ 64; simp; omega, by show 0 ≤ a + 1; omega, by show a + 1 ≤ ((n + 1 : Nat) : Int); omega⟩
      have ap : ∀ v, mAppend (.ref 1) [.int v] (hB S ⟨r, a + 1, u⟩ rest) = .ok .non (hB S ⟨r ++ [v], a + 1, u⟩ rest) := fun v => hB_app1 (d := ⟨r, a + 1, u⟩) (by show r.length < 16777216; omega)
      unfold m_drawB b_drawB
      rw [fnM_2, sSeq_def, hB_put (v := a + 1) (by simp [hB_at]) (by simp), nat _ m0]
      simp [hB_sum, hB_cells, hB_list, ci, hB_isList, hB_pop, p18, hc, fd, md, ap, hB_fin, nn, -List.map_append, -List.map_cons]
    · have mi := mixB_in (s := c) (a := a + 1) h1
      refine ⟨(mixB c (a + 1) b).toNat, ⟨r, a + 1, u⟩, fun S rest => ?_, by rw [nat _ mi.1]; exact mi.2, by show r.length ≤ 64; omega, by show 0 ≤ a + 1; omega, by show a + 1 ≤ ((n + 1 : Nat) : Int); omega⟩
      have tl := draw_tailB (S := S) (rest := rest) (cells := r) (s := c) (a := a + 1) (u := u) h1 (by omega) (by omega) (by omega)
      unfold m_drawB b_drawB
      rw [fnM_2, sSeq_def, hB_put (v := a + 1) (by simp [hB_at]) (by simp), nat _ mi.1]
      simp [hB_sum, hB_cells, hB_list, ci, tl, hB_isList, hB_pop, p18, hc, hB_fin, nn, -List.map_append, -List.map_cons]
theorem lcLoop_map {t : Itm} {tm : TM} {test : EM Bool} {elt : EM D} {vs : List Nat} {env : Env} {ah : AH} (ht : t.okIn ah = true) (f : D → D) : ∀ (ds acc : List D), acc.length + ds.length ≤ line → (∀ d ∈ ds, ∃ env1, tm d (wipeE env vs) ah = some env1 ∧ test env1 ah = .ok true ah ∧ elt env1 ah = .ok (f d) ah) → lcLoop t tm test elt vs env ds acc ah = .ok (acc ++ ds.map f) ah
  | [], acc, _, _ => by unfold lcLoop; rw [if_pos ht]; simp
  | d :: ds, acc, ha, h => by
    obtain ⟨env1, e1, e2, e3⟩ := h d (by simp)
    rw [List.length_cons] at ha
    unfold lcLoop
    rw [if_pos ⟨ht, by omega⟩, e1]
    simp only [e2, e3]
    rw [lcLoop_map ht f ds (acc ++ [f d]) (by rw [List.length_append, List.length_singleton]; omega) fun d hd => h d (List.mem_cons_of_mem _ hd)]
    simp
def b_deckB : SM := (sSeq (sAsg (eNew (e1 (e3 (eVar 0) (oPart none) (oPart (some (eC (.int 63)))) fun d lo hi ah => (listOf d ah).bind fun ds ah => lCut ds lo hi ah) lRevL)) (gSet 1)) (sRet (eNew (lLst (aCons (eVar 1) (aCons (e2 (e1 (lLc (e1 (eVar 1) iVal) (gSet 2) bYes (e2 (eVar 2) (eC (.int 2147483629)) oMod) [2]) sSum) (e2 (eC (.int 11)) (e1 (aCons (eVar 1) aNil) oLenA) oMul) oAdd) (aCons (eC (.int 0)) aNil)))))))
def m_deckB : List D → AH → Res D := fnM 3 1 b_deckB
def dkB (ns : List Int) : Dk := ⟨ns.reverse, 0, (ns.reverse.map fun c => c % 2147483629).sum + 11 * ns.length⟩
theorem dkB_ok {ns : List Int} (h : ns.length ≤ 63) : DOk 0 (dkB ns) := ⟨by show ns.reverse.length ≤ 64; simp; omega, Int.le_refl _, Int.le_refl _⟩
theorem deck_B {ns : List Int} (h : ns.length ≤ 63) : m_deckB [.ref 0] (ah0 ns) = .ok (.ref 2) (hB (ns.map D.int) (dkB ns) []) := by
  have c1 : cut (ns.map D.int) none (some 63) = ns.map D.int := by
    unfold cut
    rw [HT.sIx_none, show (63 : Int) = ((63 : Nat) : Int) from rfl, HT.sIx_nat, List.drop_zero, List.take_of_length_le (by simp; omega)]
  let R : List D := ns.reverse.map D.int
  let ah : AH := [.ro (ns.map D.int), .lst R]
  have md : ∀ (i : Int) (ah : AH), oMod (.int i) (.int 2147483629) ah = .ok (.int (i % 2147483629)) ah := fun i ah => oMod_int ah (by decide)
  have ml : ∀ (ah : AH), oMul (.int 11) (.int ns.length) ah = .ok (.int (11 * ns.length)) ah := fun ah => oMul_int ah (by decide) (by omega)
  have lp := lcLoop_map (t := ⟨R, [(1, R)]⟩) (tm := gSet 2) (test := bYes) (elt := e2 (eVar 2) (eC (.int 2147483629)) oMod) (vs := [2]) (env := [some (.ref 0), some (.ref 1), none]) (ah := ah) (by simp [Itm.okIn, listAt, ah]) (fun d => match d with
    | .int i => .int (i % 2147483629)
    | d => d) R [] (by simp [R, line]; omega) fun d hd => by
      obtain ⟨i, _, rfl⟩ := List.mem_map.mp hd
      exact ⟨_, rfl, rfl, by simp [wipeE, md]⟩
  have mp : (R.map fun d => match d with
    | .int i => .int (i % 2147483629)
    | d => d) = (ns.reverse.map fun c => c % 2147483629).map D.int := by simp [R, Function.comp_def]
  rw [mp, List.nil_append] at lp
  unfold m_deckB b_deckB
  rw [fnM_1]
  simp only [R, ah] at lp
  have od : optAll dInt (List.map (D.int ∘ fun c => c % 2147483629) ns.reverse) = some (ns.reverse.map fun c => c % 2147483629) := by rw [← List.map_map]; exact optAll_dInt _
  simp [listOf, listAt, lCut, c1, lRevL, iVal, lp, sSum, od, oLenA, oLen, ml, line, ← List.map_reverse]
  unfold fin
  simp [sound, D.und, AObj.und, D.unds, hB, dkB]
/-- a comprehension with a test, whose parts leave the heap -/
theorem lcLoop_fm {t : Itm} {tm : TM} {test : EM Bool} {elt : EM D} {vs : List Nat} {env : Env} {ah : AH} (ht : t.okIn ah = true) (p : D → Bool) (f : D → D) : ∀ (ds acc : List D), acc.length + ds.length ≤ line →
    (∀ d ∈ ds, ∃ env1, tm d (wipeE env vs) ah = some env1 ∧ test env1 ah = .ok (p d) ah ∧ (p d = true → elt env1 ah = .ok (f d) ah)) → lcLoop t tm test elt vs env ds acc ah = .ok (acc ++ (ds.filter p).map f) ah
  | [], acc, _, _ => by unfold lcLoop; rw [if_pos ht]; simp
  | d :: ds, acc, ha, h => by
    obtain ⟨env1, e1, e2, e3⟩ := h d (by simp)
    rw [List.length_cons] at ha
    have hr := fun d hd => h d (List.mem_cons_of_mem _ hd)
    unfold lcLoop
    rw [if_pos ⟨ht, by omega⟩, e1]
    cases hp : p d with
    | true =>
      rw [hp] at e2
      simp only [e2, e3 hp]
      rw [lcLoop_fm ht p f ds (acc ++ [f d]) (by rw [List.length_append, List.length_singleton]; omega) hr]
      simp [hp]
    | false =>
      rw [hp] at e2
      simp only [e2]
      rw [lcLoop_fm ht p f ds acc (by omega) hr]
      simp [hp]
end HA

/-! V1: values: lists and dicts by value, draws by any hand; links between mirrors (HA) and by-value walks. -/
namespace HV
open PySem PySem.Spec PyProof.Rows L2 HA

inductive U where
  | non | bl (b : Bool) | int (i : Int) | str (x : Str)
  | tup (us : List U)
  | lst (us : List U)
  | dK (ks : List Key) (us : List U)
  | dT (ks : List (List Key)) (us : List U)
  | ins (C : Addr) (fs : List Str) (us : List U)
  | ref (n : Nat)
  | cst (v : V)
deriving Inhabited

section
variable (ok : Nat → Prop) (ah : AH)
mutual
def R : U → D → Prop
  | .non, d => d = .non
  | .bl b, d => d = .bl b
  | .int i, d => d = .int i
  | .str x, d => d = .str x
  | .cst v, d => d = .cst v
  | .ref n, d => d = .ref n
  | .tup us, d => ∃ ds, d = .tup ds ∧ Rs us ds
  | .lst us, d => ∃ n ds, d = .ref n ∧ ok n ∧ ah[n]? = some (.lst ds) ∧ Rs us ds
  | .dK ks us, d => ∃ n kvs, d = .ref n ∧ ok n ∧ ah[n]? = some (.dK kvs) ∧ kvs.map (·.1) = ks ∧ Rs us (kvs.map (·.2))
  | .dT ks us, d => ∃ n kvs, d = .ref n ∧ ok n ∧ ah[n]? = some (.dT kvs) ∧ kvs.map (·.1) = ks ∧ Rs us (kvs.map (·.2))
  | .ins C fs us, d => ∃ n kvs, d = .ref n ∧ ok n ∧ ah[n]? = some (.ins C kvs) ∧ kvs.map (·.1) = fs ∧ Rs us (kvs.map (·.2))
def Rs : List U → List D → Prop
  | [], ds => ds = []
  | u :: us, ds => ∃ d es, ds = d :: es ∧ R u d ∧ Rs us es
end
end
/-- what is looked at stays -/
def Sta (ok : Nat → Prop) (ah ah' : AH) : Prop := ∀ n o, ok n → ah[n]? = some o → ah'[n]? = some o
section
variable {ok ok' : Nat → Prop} {ah ah' : AH}
mutual
theorem R.mono (h1 : ∀ n, ok n → ok' n) (h2 : Sta ok ah ah') : ∀ (u : U) (d : D), R ok ah u d → R ok' ah' u d
  | .non, _, h => by simp only [R] at h ⊢; exact h
  | .bl b, _, h => by simp only [R] at h ⊢; exact h
  | .int b, _, h => by simp only [R] at h ⊢; exact h
  | .str b, _, h => by simp only [R] at h ⊢; exact h
  | .cst b, _, h => by simp only [R] at h ⊢; exact h
  | .ref b, _, h => by simp only [R] at h ⊢; exact h
  | .tup us, _, h => by simp only [R] at h ⊢; obtain ⟨ds, e, r⟩ := h; exact ⟨ds, e, Rs.mono h1 h2 us ds r⟩
  | .lst us, _, h => by simp only [R] at h ⊢; obtain ⟨n, ds, e, o, q, r⟩ := h; exact ⟨n, ds, e, h1 n o, h2 n _ o q, Rs.mono h1 h2 us ds r⟩
  | .dK ks us, _, h => by simp only [R] at h ⊢; obtain ⟨n, ds, e, o, q, z, r⟩ := h; exact ⟨n, ds, e, h1 n o, h2 n _ o q, z, Rs.mono h1 h2 us _ r⟩
  | .dT ks us, _, h => by simp only [R] at h ⊢; obtain ⟨n, ds, e, o, q, z, r⟩ := h; exact ⟨n, ds, e, h1 n o, h2 n _ o q, z, Rs.mono h1 h2 us _ r⟩
  | .ins C ks us, _, h => by simp only [R] at h ⊢; obtain ⟨n, ds, e, o, q, z, r⟩ := h; exact ⟨n, ds, e, h1 n o, h2 n _ o q, z, Rs.mono h1 h2 us _ r⟩
theorem Rs.mono (h1 : ∀ n, ok n → ok' n) (h2 : Sta ok ah ah') : ∀ (us : List U) (ds : List D), Rs ok ah us ds → Rs ok' ah' us ds
  | [], _, h => by simp only [Rs] at h ⊢; exact h
  | u :: us, _, h => by simp only [Rs] at h ⊢; obtain ⟨d, es, e, q, r⟩ := h; exact ⟨d, es, e, R.mono h1 h2 u d q, Rs.mono h1 h2 us es r⟩
end
mutual
def U.flat : U → Bool
  | .tup us => U.flats us
  | .lst _ | .dK _ _ | .dT _ _ | .ins _ _ _ => false
  | _ => true
def U.flats : List U → Bool
  | [] => true
  | u :: us => U.flat u && U.flats us
end
mutual
theorem R.flat : ∀ (u : U) (d : D), u.flat = true → R ok ah u d → R ok' ah' u d
  | .non, _, _, h => by simp only [R] at h ⊢; exact h
  | .bl b, _, _, h => by simp only [R] at h ⊢; exact h
  | .int b, _, _, h => by simp only [R] at h ⊢; exact h
  | .str b, _, _, h => by simp only [R] at h ⊢; exact h
  | .cst b, _, _, h => by simp only [R] at h ⊢; exact h
  | .ref b, _, _, h => by simp only [R] at h ⊢; exact h
  | .tup us, _, f, h => by simp only [R] at h ⊢; simp only [U.flat] at f; obtain ⟨ds, e, r⟩ := h; exact ⟨ds, e, Rs.flat us ds f r⟩
  | .lst us, _, f, h => by simp [U.flat] at f
  | .dK ks us, _, f, h => by simp [U.flat] at f
  | .dT ks us, _, f, h => by simp [U.flat] at f
  | .ins C ks us, _, f, h => by simp [U.flat] at f
theorem Rs.flat : ∀ (us : List U) (ds : List D), U.flats us = true → Rs ok ah us ds → Rs ok' ah' us ds
  | [], _, _, h => by simp only [Rs] at h ⊢; exact h
  | u :: us, _, f, h => by
    simp only [Rs] at h ⊢
    simp only [U.flats, Bool.and_eq_true] at f
    obtain ⟨d, es, e, q, r⟩ := h
    exact ⟨d, es, e, R.flat u d f.1 q, Rs.flat us es f.2 r⟩
end
theorem Rs.nil : Rs ok ah [] [] := by simp only [Rs]
theorem Rs.cons {u : U} {d : D} {us : List U} {ds : List D} (h : R ok ah u d) (t : Rs ok ah us ds) : Rs ok ah (u :: us) (d :: ds) := by simp only [Rs]; exact ⟨d, ds, rfl, h, t⟩
theorem Rs.len : ∀ {us : List U} {ds : List D}, Rs ok ah us ds → us.length = ds.length
  | [], _, h => by simp only [Rs] at h; subst h; rfl
  | u :: us, _, h => by simp only [Rs] at h; obtain ⟨d, es, rfl, q, r⟩ := h; simp [Rs.len r]
theorem Rs.app : ∀ {us vs : List U} {ds es : List D}, Rs ok ah us ds → Rs ok ah vs es → Rs ok ah (us ++ vs) (ds ++ es)
  | [], _, _, _, h, t => by simp only [Rs] at h; subst h; exact t
  | u :: us, _, _, _, h, t => by simp only [Rs] at h; obtain ⟨d, es, rfl, q, r⟩ := h; exact Rs.cons q (Rs.app r t)
theorem Rs.get : ∀ {us : List U} {ds : List D} {i : Nat} {u : U}, Rs ok ah us ds → us[i]? = some u → ∃ d, ds[i]? = some d ∧ R ok ah u d
  | [], _, _, _, _, e => by simp at e
  | u :: us, _, i, x, h, e => by
    simp only [Rs] at h
    obtain ⟨d, es, rfl, q, r⟩ := h
    cases i with
    | zero => simp at e; subst e; exact ⟨d, rfl, q⟩
    | succ i => simpa using Rs.get (i := i) r (by simpa using e)
theorem Rs.take : ∀ {us : List U} {ds : List D} (n : Nat), Rs ok ah us ds → Rs ok ah (us.take n) (ds.take n)
  | _, _, 0, _ => by simpa using Rs.nil
  | [], _, n + 1, h => by simp only [Rs] at h; subst h; simpa using Rs.nil
  | u :: us, _, n + 1, h => by simp only [Rs] at h; obtain ⟨d, es, rfl, q, r⟩ := h; exact Rs.cons q (Rs.take n r)
theorem Rs.drop : ∀ {us : List U} {ds : List D} (n : Nat), Rs ok ah us ds → Rs ok ah (us.drop n) (ds.drop n)
  | _, _, 0, h => h
  | [], _, n + 1, h => by simp only [Rs] at h; subst h; simpa using Rs.nil
  | u :: us, _, n + 1, h => by simp only [Rs] at h; obtain ⟨d, es, rfl, q, r⟩ := h; exact Rs.drop n r
theorem Rs.set : ∀ {us : List U} {ds : List D} (n : Nat) {u : U} {d : D}, Rs ok ah us ds → R ok ah u d → Rs ok ah (us.set n u) (ds.set n d)
  | [], _, n, _, _, h, _ => by simp only [Rs] at h; subst h; simpa using Rs.nil
  | u :: us, _, 0, _, _, h, x => by simp only [Rs] at h; obtain ⟨d, es, rfl, q, r⟩ := h; exact Rs.cons x r
  | u :: us, _, n + 1, _, _, h, x => by simp only [Rs] at h; obtain ⟨d, es, rfl, q, r⟩ := h; exact Rs.cons q (Rs.set n r x)
theorem Rs.rev : ∀ {us : List U} {ds : List D}, Rs ok ah us ds → Rs ok ah us.reverse ds.reverse
  | [], _, h => by simp only [Rs] at h; subst h; simpa using Rs.nil
  | u :: us, _, h => by
    simp only [Rs] at h
    obtain ⟨d, es, rfl, q, r⟩ := h
    rw [List.reverse_cons, List.reverse_cons]
    exact (Rs.rev r).app (Rs.cons q Rs.nil)
theorem Rs.eraseIdx : ∀ {us : List U} {ds : List D} (n : Nat), Rs ok ah us ds → Rs ok ah (us.eraseIdx n) (ds.eraseIdx n)
  | [], _, n, h => by simp only [Rs] at h; subst h; simpa using Rs.nil
  | u :: us, _, 0, h => by simp only [Rs] at h; obtain ⟨d, es, rfl, q, r⟩ := h; exact r
  | u :: us, _, n + 1, h => by simp only [Rs] at h; obtain ⟨d, es, rfl, q, r⟩ := h; exact Rs.cons q (Rs.eraseIdx n r)
theorem Rs.dropLast {us : List U} {ds : List D} (h : Rs ok ah us ds) : Rs ok ah us.dropLast ds.dropLast := by
  rw [List.dropLast_eq_take, List.dropLast_eq_take, ← h.len]; exact h.take _
theorem Rs.rep {us : List U} {ds : List D} (h : Rs ok ah us ds) : ∀ n : Nat, Rs ok ah (List.replicate n us).flatten (List.replicate n ds).flatten
  | 0 => by simpa using Rs.nil
  | n + 1 => by rw [List.replicate_succ, List.replicate_succ, List.flatten_cons, List.flatten_cons]; exact h.app (Rs.rep h n)
theorem Rs.ints : ∀ {ns : List Int} {ds : List D}, Rs ok ah (ns.map U.int) ds → ds = ns.map D.int
  | [], _, h => by simp only [List.map_nil, Rs] at h; subst h; rfl
  | n :: ns, _, h => by simp only [List.map_cons, Rs, R] at h; obtain ⟨d, es, rfl, rfl, r⟩ := h; rw [Rs.ints r]; rfl
theorem Rs.of_ints : ∀ (ns : List Int), Rs ok ah (ns.map U.int) (ns.map D.int)
  | [] => Rs.nil
  | n :: ns => Rs.cons (by simp only [R]) (Rs.of_ints ns)
end
/-- the content of an object -/
def OR (ok : Nat → Prop) (ah : AH) : U → AObj → Prop
  | .lst us, .lst ds => Rs ok ah us ds
  | .dK ks us, .dK kvs => kvs.map (·.1) = ks ∧ Rs ok ah us (kvs.map (·.2))
  | .dT ks us, .dT kvs => kvs.map (·.1) = ks ∧ Rs ok ah us (kvs.map (·.2))
  | .ins C fs us, .ins C' kvs => C = C' ∧ kvs.map (·.1) = fs ∧ Rs ok ah us (kvs.map (·.2))
  | _, _ => False
section
variable {ok ok' : Nat → Prop} {ah ah' : AH}
theorem OR.mono (h1 : ∀ n, ok n → ok' n) (h2 : Sta ok ah ah') {u : U} {o : AObj} (h : OR ok ah u o) : OR ok' ah' u o := by
  unfold OR at h ⊢
  split at h
  · exact Rs.mono h1 h2 _ _ h
  · exact ⟨h.1, Rs.mono h1 h2 _ _ h.2⟩
  · exact ⟨h.1, Rs.mono h1 h2 _ _ h.2⟩
  · exact ⟨h.1, h.2.1, Rs.mono h1 h2 _ _ h.2.2⟩
  · exact h
theorem OR.to {u : U} {o : AObj} {n : Nat} (h : OR ok ah u o) (hn : ok n) (e : ah[n]? = some o) : R ok ah u (.ref n) := by
  unfold OR at h
  split at h
  · simp only [R]; exact ⟨n, _, rfl, hn, e, h⟩
  · simp only [R]; exact ⟨n, _, rfl, hn, e, h⟩
  · simp only [R]; exact ⟨n, _, rfl, hn, e, h⟩
  · obtain ⟨rfl, h⟩ := h; simp only [R]; exact ⟨n, _, rfl, hn, e, h⟩
  · exact h.elim
end
/-! ### heaps -/
structure Grow (ah ah' : AH) : Prop where
  len : ah.length ≤ ah'.length
  same : ∀ n, 3 ≤ n → n < ah.length → ah'[n]? = ah[n]?
theorem Grow.refl {ah : AH} : Grow ah ah := ⟨Nat.le_refl _, fun _ _ _ => rfl⟩
theorem Grow.trans {a b c : AH} (h : Grow a b) (k : Grow b c) : Grow a c := ⟨Nat.le_trans h.len k.len, fun n h3 hn => (k.same n h3 (Nat.lt_of_lt_of_le hn h.len)).trans (h.same n h3 hn)⟩
theorem Grow.app {ah x : AH} : Grow ah (ah ++ x) := ⟨by simp, fun n _ hn => List.getElem?_append_left hn⟩
structure OkF (ok : Nat → Prop) (ah : AH) : Prop where
  three : ∀ n, ok n → 3 ≤ n
  fresh : ∀ n, ah.length ≤ n → ok n
theorem Grow.sta {ok : Nat → Prop} {ah ah' : AH} (g : Grow ah ah') (h : OkF ok ah) : Sta ok ah ah' := fun n o hn e => by
  rw [g.same n (h.three n hn) (List.getElem?_eq_some_iff.mp e).1]; exact e
theorem OkF.grow {ok : Nat → Prop} {ah ah' : AH} (h : OkF ok ah) (g : Grow ah ah') : OkF ok ah' := ⟨h.three, fun n hn => h.fresh n (Nat.le_trans g.len hn)⟩
theorem R.grow {ok : Nat → Prop} {ah ah' : AH} {u : U} {d : D} (h : R ok ah u d) (o : OkF ok ah) (g : Grow ah ah') : R ok ah' u d := R.mono (fun _ h => h) (g.sta o) u d h
theorem Rs.grow {ok : Nat → Prop} {ah ah' : AH} {u : List U} {d : List D} (h : Rs ok ah u d) (o : OkF ok ah) (g : Grow ah ah') : Rs ok ah' u d := Rs.mono (fun _ h => h) (g.sta o) u d h
/-- the deck, wherever it lies in the first three places; how often was drawn -/
structure Dks where
  at' : Nat → AH → Prop
  len : ∀ {N ah}, at' N ah → 3 ≤ ah.length
  stay : ∀ {N ah ah'}, at' N ah → 3 ≤ ah'.length → (∀ n, n < 3 → ah'[n]? = ah[n]?) → at' N ah'
  mono : ∀ {N M ah}, at' N ah → N ≤ M → at' M ah
def LIM : Nat := 2 ^ 5000
def cb (c : Nat) : Nat := if c = 0 then 0 else 2 ^ c
def sq (a b : Nat) : Nat := if a = 0 then b else if b = 0 then a else max a b + 1
def lp (c : Nat) : Nat := if c = 0 then 0 else c + 24
theorem cb_sq (a b : Nat) : cb a + cb b ≤ cb (sq a b) := by
  unfold cb sq
  by_cases ha : a = 0
  · simp [ha]
  · by_cases hb : b = 0
    · simp [ha, hb]
    · simp only [ha, hb, if_false, Nat.add_eq_zero_iff, Nat.one_ne_zero, and_false]
      have h1 : 2 ^ a ≤ 2 ^ max a b := Nat.pow_le_pow_right (by decide) (Nat.le_max_left _ _)
      have h2 : 2 ^ b ≤ 2 ^ max a b := Nat.pow_le_pow_right (by decide) (Nat.le_max_right _ _)
      rw [Nat.pow_succ]
      omega
theorem cb_left (a b : Nat) : cb a ≤ cb (sq a b) := Nat.le_trans (Nat.le_add_right _ _) (cb_sq a b)
theorem cb_right (a b : Nat) : cb b ≤ cb (sq a b) := Nat.le_trans (Nat.le_add_left _ _) (cb_sq a b)
theorem cb_mono {a b : Nat} (h : a ≤ b) : cb a ≤ cb b := by
  unfold cb
  by_cases ha : a = 0
  · simp [ha]
  · rw [if_neg ha, if_neg (by omega)]
    exact Nat.pow_le_pow_right (by decide) h
theorem cb_lp (c n : Nat) (h : n ≤ 2 ^ 24) : n * cb c ≤ cb (lp c) := by
  unfold cb lp
  by_cases ha : c = 0
  · simp [ha]
  · simp only [ha, if_false, Nat.add_eq_zero_iff, false_and]
    rw [Nat.pow_add, Nat.mul_comm (2 ^ c)]
    exact Nat.mul_le_mul_right _ h
/-! ### judgements of expressions -/
structure Rl (α β : Type) where
  r : (Nat → Prop) → AH → α → β → Prop
  mono : ∀ {ok ok' : Nat → Prop} {ah ah' : AH} {a : α} {b : β}, (∀ n, ok n → ok' n) → Sta ok ah ah' → r ok ah a b → r ok' ah' a b
def RU : Rl U D := ⟨fun ok ah => R ok ah, fun h1 h2 => R.mono h1 h2 _ _⟩
def RUs : Rl (List U) (List D) := ⟨fun ok ah => Rs ok ah, fun h1 h2 => Rs.mono h1 h2 _ _⟩
def REq (α : Type) : Rl α α := ⟨fun _ _ a b => a = b, fun _ _ h => h⟩
theorem Rl.grow {α β : Type} (Q : Rl α β) {ok : Nat → Prop} {ah ah' : AH} {a : α} {b : β} (h : Q.r ok ah a b) (o : OkF ok ah) (g : Grow ah ah') : Q.r ok ah' a b := Q.mono (fun _ h => h) (g.sta o) h
abbrev UEnv := List (Option U)
abbrev EF := Option (List Str × List U)
abbrev ExK := Addr → EF → Prop
abbrev VE (α : Type) := UEnv → ExK → (α → Prop) → Prop
def RX (ok : Nat → Prop) (ah : AH) : EF → Option (List (Str × D)) → Prop
  | none, fs => fs = none
  | some (ks, us), fs => ∃ kvs, fs = some kvs ∧ kvs.map (·.1) = ks ∧ Rs ok ah us (kvs.map (·.2))
theorem RX.mono {ok ok' : Nat → Prop} {ah ah' : AH} (h1 : ∀ n, ok n → ok' n) (h2 : Sta ok ah ah') {f : EF} {fs : Option (List (Str × D))} (h : RX ok ah f fs) : RX ok' ah' f fs := by
  match f, h with
  | none, h => exact h
  | some (ks, us), ⟨kvs, e, z, r⟩ => exact ⟨kvs, e, z, Rs.mono h1 h2 _ _ r⟩
structure EnvR (ok : Nat → Prop) (ah : AH) (Γ : UEnv) (env : HA.Env) : Prop where
  len : env.length = Γ.length
  at' : ∀ (i : Nat) (u : U), Γ[i]? = some (some u) → ∃ d, env[i]? = some (some d) ∧ R ok ah u d
theorem EnvR.grow {ok : Nat → Prop} {ah ah' : AH} {Γ : UEnv} {env : HA.Env} (h : EnvR ok ah Γ env) (o : OkF ok ah) (g : Grow ah ah') : EnvR ok ah' Γ env :=
  ⟨h.len, fun i u e => let ⟨d, e1, r⟩ := h.at' i u e; ⟨d, e1, r.grow o g⟩⟩
section
variable (K : Dks) {α β γ δ α' β' γ' δ' : Type}
def PR (ok : Nat → Prop) (ah : AH) (N : Nat) (Q : Rl α β) (X : ExK) (k : α → Prop) : Res β → Prop
  | .ok b ah' => ∃ a, k a ∧ Q.r ok ah' a b ∧ Grow ah ah' ∧ K.at' N ah'
  | .exn c fs ah' => ∃ f, X c f ∧ RX ok ah' f fs ∧ Grow ah ah' ∧ K.at' N ah'
  | .stuck => False
variable {K}
theorem PR.bind {ok : Nat → Prop} {ah : AH} {N M : Nat} {Q : Rl α β} {Q' : Rl γ δ} {X : ExK} {k : α → Prop} {k' : γ → Prop} {r : Res β} {f : β → AH → Res δ}
    (h : PR K ok ah N Q X k r) (hN : N ≤ M) (hf : ∀ a b ah', k a → Q.r ok ah' a b → Grow ah ah' → K.at' N ah' → PR K ok ah' M Q' X k' (f b ah')) : PR K ok ah M Q' X k' (r.bind f) := by
  cases r with
  | ok b ah' =>
    obtain ⟨a, ka, q, g, kk⟩ := h
    have := hf a b ah' ka q g kk
    show PR K ok ah M Q' X k' (f b ah')
    cases e : f b ah' with
    | ok d ah2 => rw [e] at this; obtain ⟨c, kc, q2, g2, k2⟩ := this; exact ⟨c, kc, q2, g.trans g2, k2⟩
    | exn c fs ah2 => rw [e] at this; obtain ⟨c, kc, q2, g2, k2⟩ := this; exact ⟨c, kc, q2, g.trans g2, k2⟩
    | stuck => rw [e] at this; exact this
  | exn c fs ah' =>
    obtain ⟨f, x, q, g, kk⟩ := h
    exact ⟨f, x, q, g, K.mono kk hN⟩
  | stuck => exact h
variable (K)
/-- an expression's mirror does what the by-value walk says -/
structure LE (Q : Rl α β) (c : Nat) (m : EM β) (p : VE α) : Prop where
  to : ∀ {ok : Nat → Prop} {Γ : UEnv} {env : HA.Env} {ah : AH} {N : Nat} {X : ExK} {k : α → Prop}, OkF ok ah → EnvR ok ah Γ env → K.at' N ah → N + cb c ≤ LIM → p Γ X k → PR K ok ah (N + cb c) Q X k (m env ah)
structure LO1 (Q : Rl α β) (Q' : Rl γ δ) (c : Nat) (f : β → AH → Res δ) (p : α → ExK → (γ → Prop) → Prop) : Prop where
  to : ∀ {ok : Nat → Prop} {ah : AH} {N : Nat} {X : ExK} {k : γ → Prop} {a : α} {b : β}, OkF ok ah → Q.r ok ah a b → K.at' N ah → N + cb c ≤ LIM → p a X k → PR K ok ah (N + cb c) Q' X k (f b ah)
structure LO2 (Q : Rl α β) (Q1 : Rl α' β') (Q' : Rl γ δ) (f : β → β' → AH → Res δ) (p : α → α' → ExK → (γ → Prop) → Prop) : Prop where
  to : ∀ {ok : Nat → Prop} {ah : AH} {N : Nat} {X : ExK} {k : γ → Prop} {a : α} {b : β} {a' : α'} {b' : β'}, OkF ok ah → Q.r ok ah a b → Q1.r ok ah a' b' → K.at' N ah → p a a' X k → PR K ok ah N Q' X k (f b b' ah)
structure LO3 (Q : Rl α β) (Q1 : Rl α' β') (Q2 : Rl γ' δ') (Q' : Rl γ δ) (f : β → β' → δ' → AH → Res δ) (p : α → α' → γ' → ExK → (γ → Prop) → Prop) : Prop where
  to : ∀ {ok : Nat → Prop} {ah : AH} {N : Nat} {X : ExK} {k : γ → Prop} {a : α} {b : β} {a' : α'} {b' : β'} {a2 : γ'} {b2 : δ'}, OkF ok ah → Q.r ok ah a b → Q1.r ok ah a' b' → Q2.r ok ah a2 b2 → K.at' N ah → p a a' a2 X k → PR K ok ah N Q' X k (f b b' b2 ah)
def v1 (pa : VE α) (f : α → ExK → (γ → Prop) → Prop) : VE γ := fun Γ X k => pa Γ X fun a => f a X k
def v2 (pa : VE α) (pb : VE α') (f : α → α' → ExK → (γ → Prop) → Prop) : VE γ := fun Γ X k => pa Γ X fun a => pb Γ X fun b => f a b X k
def v3 (pa : VE α) (pb : VE α') (pc : VE γ') (f : α → α' → γ' → ExK → (γ → Prop) → Prop) : VE γ := fun Γ X k => pa Γ X fun a => pb Γ X fun b => pc Γ X fun c => f a b c X k
variable {K}
theorem LE.weak {Q : Rl α β} {c c' : Nat} {m : EM β} {p : VE α} (h : LE K Q c m p) (hc : cb c ≤ cb c') : LE K Q c' m p := ⟨fun o e k l x => by
  have := h.to o e k (by omega) x
  revert this
  unfold PR
  split
  · exact fun ⟨a, h1, h2, h3, h4⟩ => ⟨a, h1, h2, h3, K.mono h4 (by omega)⟩
  · exact fun ⟨a, h1, h2, h3, h4⟩ => ⟨a, h1, h2, h3, K.mono h4 (by omega)⟩
  · exact fun h => h⟩
theorem le_1 {Q : Rl α β} {Q' : Rl γ δ} {c c' : Nat} {m : EM β} {p : VE α} {f : β → AH → Res δ} {pf : α → ExK → (γ → Prop) → Prop} (h : LE K Q c m p) (hf : LO1 K Q Q' c' f pf) : LE K Q' (sq c c') (e1 m f) (v1 p pf) := ⟨fun {ok Γ env ah N X k} o e kk l x => by
  have s := cb_sq c c'
  refine PR.bind (h.to o e kk (by omega) x) (Nat.add_le_add_left (cb_left c c') N) fun a b ah' ka q g k2 => ?_
  have := hf.to (o.grow g) q k2 (by omega) ka
  refine (?_ : ∀ M, _ ≤ M → PR K ok ah' M Q' X k (f b ah')) _ (show N + cb c + cb c' ≤ N + cb (sq c c') by omega)
  intro M hM
  revert this
  unfold PR
  split
  · exact fun ⟨a, h1, h2, h3, h4⟩ => ⟨a, h1, h2, h3, K.mono h4 hM⟩
  · exact fun ⟨a, h1, h2, h3, h4⟩ => ⟨a, h1, h2, h3, K.mono h4 hM⟩
  · exact fun h => h⟩
theorem PR.le {ok : Nat → Prop} {ah : AH} {N M : Nat} {Q : Rl α β} {X : ExK} {k : α → Prop} {r : Res β} (h : PR K ok ah N Q X k r) (hM : N ≤ M) : PR K ok ah M Q X k r := by
  revert h
  unfold PR
  split
  · exact fun ⟨a, h1, h2, h3, h4⟩ => ⟨a, h1, h2, h3, K.mono h4 hM⟩
  · exact fun ⟨a, h1, h2, h3, h4⟩ => ⟨a, h1, h2, h3, K.mono h4 hM⟩
  · exact fun h => h
theorem le_2 {Q : Rl α β} {Q1 : Rl α' β'} {Q' : Rl γ δ} {c c' : Nat} {m : EM β} {p : VE α} {m' : EM β'} {p' : VE α'} {f : β → β' → AH → Res δ} {pf : α → α' → ExK → (γ → Prop) → Prop} (h : LE K Q c m p) (h' : LE K Q1 c' m' p') (hf : LO2 K Q Q1 Q' f pf) : LE K Q' (sq c c') (e2 m m' f) (v2 p p' pf) := ⟨fun {ok Γ env ah N X k} o e kk l x => by
  have s := cb_sq c c'
  refine PR.bind (h.to o e kk (by omega) x) (Nat.add_le_add_left (cb_left c c') N) fun a b ah' ka q g k2 => ?_
  refine PR.bind ((h'.to (o.grow g) (e.grow o g) k2 (by omega) ka).le (M := N + cb (sq c c')) (by omega)) (Nat.le_refl _) fun a' b' ah2 ka2 q2 g2 k3 => ?_
  exact hf.to ((o.grow g).grow g2) (Q.grow q (o.grow g) g2) q2 k3 ka2⟩
theorem le_3 {Q : Rl α β} {Q1 : Rl α' β'} {Q2 : Rl γ' δ'} {Q' : Rl γ δ} {c c' c2 : Nat} {m : EM β} {p : VE α} {m' : EM β'} {p' : VE α'} {m2 : EM δ'} {p2 : VE γ'} {f : β → β' → δ' → AH → Res δ} {pf : α → α' → γ' → ExK → (γ → Prop) → Prop} (h : LE K Q c m p) (h' : LE K Q1 c' m' p') (h2 : LE K Q2 c2 m2 p2) (hf : LO3 K Q Q1 Q2 Q' f pf) : LE K Q' (sq c (sq c' c2)) (e3 m m' m2 f) (v3 p p' p2 pf) := ⟨fun {ok Γ env ah N X k} o e kk l x => by
  have s := cb_sq c (sq c' c2)
  have s' := cb_sq c' c2
  refine PR.bind (h.to o e kk (by omega) x) (Nat.add_le_add_left (cb_left c _) N) fun a b ah' ka q g k2 => ?_
  refine PR.bind (h'.to (o.grow g) (e.grow o g) k2 (by omega) ka) (by omega) fun a' b' ah2 ka2 q2 g2 k3 => ?_
  refine PR.bind ((h2.to ((o.grow g).grow g2) ((e.grow o g).grow (o.grow g) g2) k3 (by omega) ka2).le (M := N + cb (sq c (sq c' c2))) (by omega)) (Nat.le_refl _) fun a3 b3 ah3 ka3 q3 g3 k4 => ?_
  exact hf.to (((o.grow g).grow g2).grow g3) (Q.grow (Q.grow q (o.grow g) g2) ((o.grow g).grow g2) g3) (Q1.grow q2 ((o.grow g).grow g2) g3) q3 k4 ka3⟩
end
end HV

/-! V2: expressions of the by-value layer. -/
namespace HV
open PySem PySem.Spec PyProof.Rows L2 HA

section
variable {K : Dks} {α β γ δ α' β' γ' δ' : Type}
theorem PR.okI {ok : Nat → Prop} {ah : AH} {N : Nat} {Q : Rl α β} {X : ExK} {k : α → Prop} {a : α} {b : β} (hk : k a) (q : Q.r ok ah a b) (kk : K.at' N ah) : PR K ok ah N Q X k (.ok b ah) := ⟨a, hk, q, Grow.refl, kk⟩
theorem Dks.app {N : Nat} {ah : AH} (x : AH) (h : K.at' N ah) : K.at' N (ah ++ x) := by
  have l := K.len h
  exact K.stay h (by simp; omega) fun n hn => List.getElem?_append_left (by omega)
theorem PR.newI {ok : Nat → Prop} {ah x : AH} {N : Nat} {Q : Rl α β} {X : ExK} {k : α → Prop} {a : α} {b : β} (hk : k a) (q : Q.r ok (ah ++ x) a b) (kk : K.at' N ah) : PR K ok ah N Q X k (.ok b (ah ++ x)) := ⟨a, hk, q, Grow.app, K.app x kk⟩
theorem cb_zero : cb 0 = 0 := rfl
/-! variables, constants -/
def vVar (i : Nat) : VE U := fun Γ _ k => match Γ[i]? with
  | some (some u) => k u
  | _ => False
theorem le_var (i : Nat) : LE K RU 0 (eVar i) (vVar i) := ⟨fun {ok Γ env ah N X k} o e kk l x => by
  unfold vVar at x
  split at x
  · rename_i u hu
    obtain ⟨d, h1, h2⟩ := e.at' i u hu
    unfold eVar
    rw [h1]
    exact .okI x h2 kk
  · exact x.elim⟩
mutual
def toU : D → U
  | .non => .non
  | .bl b => .bl b
  | .int i => .int i
  | .str x => .str x
  | .ref n => .ref n
  | .cst v => .cst v
  | .tup ds => .tup (toUs ds)
def toUs : List D → List U
  | [] => []
  | d :: ds => toU d :: toUs ds
end
mutual
theorem R_toU {ok : Nat → Prop} {ah : AH} : ∀ d : D, R ok ah (toU d) d
  | .non => by simp only [toU, R]
  | .bl b => by simp only [toU, R]
  | .int i => by simp only [toU, R]
  | .str x => by simp only [toU, R]
  | .ref n => by simp only [toU, R]
  | .cst v => by simp only [toU, R]
  | .tup ds => by simp only [toU, R]; exact ⟨ds, rfl, Rs_toU ds⟩
theorem Rs_toU {ok : Nat → Prop} {ah : AH} : ∀ ds : List D, Rs ok ah (toUs ds) ds
  | [] => by simp only [toUs, Rs]
  | d :: ds => by simp only [toUs, Rs]; exact ⟨d, ds, rfl, R_toU d, Rs_toU ds⟩
end
def vC (d : D) : VE U := fun _ _ k => k (toU d)
theorem le_c (d : D) : LE K RU 0 (eC d) (vC d) := ⟨fun o e kk l x => .okI x (R_toU d) kk⟩
/-! arguments -/
def vaNil : VE (List U) := fun _ _ k => k []
def vaCons (p : VE U) (r : VE (List U)) : VE (List U) := fun Γ X k => p Γ X fun u => r Γ X fun us => k (u :: us)
theorem le_anil : LE K RUs 0 aNil vaNil := ⟨fun {ok Γ env ah N X k} o e kk l x => .okI x (Rs.nil (ok := ok) (ah := ah)) kk⟩
theorem le_acons {c c' : Nat} {m : EM D} {p : VE U} {r : EM (List D)} {pr : VE (List U)} (h : LE K RU c m p) (h' : LE K RUs c' r pr) : LE K RUs (sq c c') (aCons m r) (vaCons p pr) :=
  le_2 (f := fun (x : D) (xs : List D) ah => Res.ok (x :: xs) ah) (pf := fun u us _ k => k (u :: us)) h h' ⟨fun o q q' kk x => .okI x (Rs.cons q q') kk⟩
def vTup (p : VE (List U)) : VE U := v1 p fun us _ k => us.length ≤ line ∧ k (.tup us)
theorem le_tup {c : Nat} {m : EM (List D)} {p : VE (List U)} (h : LE K RUs c m p) : LE K RU (sq c 0) (eTup m) (vTup p) := le_1 h ⟨fun {ok ah N X k a b} o q kk l x => by
  rw [if_pos (by rw [← Rs.len q]; exact x.1)]
  exact .okI x.2 (show R ok ah (.tup a) (.tup b) by simp only [R]; exact ⟨b, rfl, q⟩) kk⟩
def vLst (p : VE (List U)) : VE (List U) := v1 p fun us _ k => us.length ≤ line ∧ k us
theorem le_lst {c : Nat} {m : EM (List D)} {p : VE (List U)} (h : LE K RUs c m p) : LE K RUs (sq c 0) (lLst m) (vLst p) := le_1 h ⟨fun {ok ah N X k a b} o q kk l x => by
  rw [if_pos (by rw [← Rs.len q]; exact x.1)]
  exact .okI x.2 q kk⟩
def vNew (p : VE (List U)) : VE U := v1 p fun us _ k => k (.lst us)
theorem le_new {c : Nat} {m : EM (List D)} {p : VE (List U)} (h : LE K RUs c m p) : LE K RU (sq c 0) (eNew m) (vNew p) := le_1 h ⟨fun {ok ah N X k a b} o q kk l x => by
  refine .newI x ?_ kk
  show R ok _ (.lst a) (.ref _)
  simp only [R]
  exact ⟨ah.length, b, rfl, o.fresh _ (Nat.le_refl _), by simp, Rs.grow q o Grow.app⟩⟩
/-! truths -/
def vB (p : VE Bool) : VE U := fun Γ X k => p Γ X fun b => k (.bl b)
theorem le_B {c : Nat} {m : EM Bool} {p : VE Bool} (h : LE K (REq Bool) c m p) : LE K RU (sq c 0) (eB m) (vB p) :=
  le_1 (f := fun b ah => Res.ok (D.bl b) ah) (pf := fun b _ k => k (U.bl b)) (Q' := RU) (c' := 0) h ⟨fun {ok ah N X k a b} o q kk l x => .okI x (by cases q; show R ok ah _ _; simp only [R]) kk⟩
theorem PR.ite {ok : Nat → Prop} {ah : AH} {N : Nat} {Q : Rl α β} {X : ExK} {k : α → Prop} {a b : Res β} {t : Bool} {x y : Prop} (h : if t = true then x else y) (ha : x → PR K ok ah N Q X k a) (hb : y → PR K ok ah N Q X k b) : PR K ok ah N Q X k (if t = true then a else b) := by
  cases t with
  | true => exact ha h
  | false => exact hb h
def vAnd (a b : VE Bool) : VE Bool := fun Γ X k => a Γ X fun t => if t = true then b Γ X k else k false
def vOr (a b : VE Bool) : VE Bool := fun Γ X k => a Γ X fun t => if t = true then k true else b Γ X k
def vNot (a : VE Bool) : VE Bool := fun Γ X k => a Γ X fun t => k (!t)
def vYes : VE Bool := fun _ _ k => k true
theorem le_yes : LE K (REq Bool) 0 bYes vYes := ⟨fun o e kk l x => .okI x rfl kk⟩
theorem le_and {c c' : Nat} {m m' : EM Bool} {p p' : VE Bool} (h : LE K (REq Bool) c m p) (h' : LE K (REq Bool) c' m' p') : LE K (REq Bool) (sq c c') (bAnd m m') (vAnd p p') := ⟨fun {ok Γ env ah N X k} o e kk l x => by
  have s := cb_sq c c'
  refine PR.bind (h.to o e kk (by omega) x) (by omega) fun a b ah' ka q g k2 => ?_
  cases q
  exact PR.ite ka (fun z => (h'.to (o.grow g) (e.grow o g) k2 (by omega) z).le (by omega)) fun z => .okI z rfl (K.mono k2 (by omega))⟩
theorem le_or {c c' : Nat} {m m' : EM Bool} {p p' : VE Bool} (h : LE K (REq Bool) c m p) (h' : LE K (REq Bool) c' m' p') : LE K (REq Bool) (sq c c') (bOr m m') (vOr p p') := ⟨fun {ok Γ env ah N X k} o e kk l x => by
  have s := cb_sq c c'
  refine PR.bind (h.to o e kk (by omega) x) (by omega) fun a b ah' ka q g k2 => ?_
  cases q
  exact PR.ite ka (fun z => .okI z rfl (K.mono k2 (by omega))) fun z => (h'.to (o.grow g) (e.grow o g) k2 (by omega) z).le (by omega)⟩
theorem le_not {c : Nat} {m : EM Bool} {p : VE Bool} (h : LE K (REq Bool) c m p) : LE K (REq Bool) (sq c 0) (bNot m) (vNot p) :=
  le_1 (f := fun b ah => Res.ok (!b) ah) (pf := fun b _ k => k (!b)) h ⟨fun {ok ah N X k a b} o q kk l x => .okI x (by cases q; rfl) kk⟩
/-- data by value as the repr's data -/
def uP : Nat → U → Option PyData
  | 0, _ => none
  | f + 1, u => match u with
    | .non => some .none
    | .bl b => some (.bool b)
    | .int i => some (.int i)
    | .str x => some (.str x)
    | .tup us => (optAll (uP f) us).map .tuple
    | .lst us => (optAll (uP f) us).map .list
    | .dK ks us => (optAll (uP f) us).map fun vs => .dict ((ks.map keyP).zip vs)
    | _ => none
theorem optAll_uP {ok : Nat → Prop} {ah : AH} {f : Nat} (h : ∀ (u : U) (d : D) (p : PyData), R ok ah u d → uP f u = some p → toP ah f d = some p) : ∀ (us : List U) (ds : List D) (ps : List PyData), Rs ok ah us ds → optAll (uP f) us = some ps → optAll (toP ah f) ds = some ps
  | [], _, _, r, e => by simp only [Rs] at r; subst r; exact e
  | u :: us, _, ps, r, e => by
    simp only [Rs] at r
    obtain ⟨d, es, rfl, q, r⟩ := r
    unfold optAll at e ⊢
    split at e
    · rename_i b bs h1 h2
      rw [h u d _ q h1, optAll_uP h us es _ r h2]
      exact e
    · cases e
theorem uP_toP {ok : Nat → Prop} {ah : AH} : ∀ (f : Nat) (u : U) (d : D) (p : PyData), R ok ah u d → uP f u = some p → toP ah f d = some p
  | 0, _, _, _, _, e => by simp [uP] at e
  | f + 1, u, d, p, r, e => by
    have ih := optAll_uP (uP_toP (ok := ok) (ah := ah) f)
    unfold uP at e
    split at e
    · simp only [R] at r; subst r; exact e
    · simp only [R] at r; subst r; exact e
    · simp only [R] at r; subst r; exact e
    · simp only [R] at r; subst r; exact e
    · rename_i us
      simp only [R] at r
      obtain ⟨ds, rfl, r⟩ := r
      rw [Option.map_eq_some_iff] at e
      obtain ⟨ps, e1, e2⟩ := e
      unfold toP
      simp only
      rw [ih us ds ps r e1]
      exact congrArg some e2
    · rename_i us
      simp only [R] at r
      obtain ⟨n, ds, rfl, _, h, r⟩ := r
      rw [Option.map_eq_some_iff] at e
      obtain ⟨ps, e1, e2⟩ := e
      unfold toP
      simp only [h]
      rw [ih us ds ps r e1]
      exact congrArg some e2
    · rename_i ks us
      simp only [R] at r
      obtain ⟨n, ds, rfl, _, h, z, r⟩ := r
      rw [Option.map_eq_some_iff] at e
      obtain ⟨ps, e1, e2⟩ := e
      unfold toP
      simp only [h]
      rw [ih us _ ps r e1, ← e2, ← z]
      simp [Function.comp_def]
    · cases e
def vTruth : U → ExK → (Bool → Prop) → Prop
  | .non, _, k => k false
  | .bl b, _, k => k b
  | .int i, _, k => k (i != 0)
  | .str x, _, k => x.length ≤ line ∧ k ((x.length : Int) != 0)
  | .tup us, _, k => k (!us.isEmpty)
  | .lst us, _, k => k (!us.isEmpty)
  | .dK ks _, _, k => k (!ks.isEmpty)
  | _, _, _ => False
theorem empty_of {α β : Type} {xs : List α} {ys : List β} (h : xs.length = ys.length) : xs.isEmpty = ys.isEmpty := by
  cases xs <;> cases ys <;> simp at h ⊢
theorem lo_truth : LO1 K RU (REq Bool) 0 truth vTruth := ⟨fun {ok ah N X k a b} o q kk l x => by
  change R ok ah a b at q
  unfold vTruth at x
  split at x <;> try simp only [R] at q
  · subst q; exact .okI x rfl kk
  · subst q; exact .okI x rfl kk
  · subst q; exact .okI x rfl kk
  · subst q; unfold truth; simp only; rw [if_pos x.1]; exact .okI x.2 rfl kk
  · obtain ⟨ds, rfl, r⟩ := q
    exact .okI x (show _ = _ by rw [empty_of (Rs.len r)]) kk
  · obtain ⟨n, ds, rfl, _, h, r⟩ := q
    unfold truth
    simp only [h]
    exact .okI x (show _ = _ by rw [empty_of (Rs.len r)]) kk
  · obtain ⟨n, ds, rfl, _, h, z, r⟩ := q
    unfold truth
    simp only [h]
    exact .okI x (show _ = _ by rw [← z]; simp) kk
  · exact x.elim⟩
def vIf (c : VE Bool) (a b : VE α) : VE α := fun Γ X k => c Γ X fun t => if t = true then a Γ X k else b Γ X k
theorem le_if {Q : Rl α β} {c c1 c2 : Nat} {mc : EM Bool} {pc : VE Bool} {m m' : EM β} {p p' : VE α} (hc : LE K (REq Bool) c mc pc) (h : LE K Q c1 m p) (h' : LE K Q c2 m' p') : LE K Q (sq c (sq c1 c2)) (eIf mc m m') (vIf pc p p') := ⟨fun {ok Γ env ah N X k} o e kk l x => by
  have s := cb_sq c (sq c1 c2)
  have s' := cb_sq c1 c2
  refine PR.bind (hc.to o e kk (by omega) x) (by omega) fun a b ah' ka q g k2 => ?_
  cases q
  exact PR.ite ka (fun z => (h.to (o.grow g) (e.grow o g) k2 (by omega) z).le (by omega)) fun z => (h'.to (o.grow g) (e.grow o g) k2 (by omega) z).le (by omega)⟩
def vEAnd (a b : VE U) : VE U := fun Γ X k => a Γ X fun u => vTruth u X fun t => if t = true then b Γ X k else k u
def vEOr (a b : VE U) : VE U := fun Γ X k => a Γ X fun u => vTruth u X fun t => if t = true then k u else b Γ X k
def vENot (a : VE U) : VE U := fun Γ X k => a Γ X fun u => vTruth u X fun t => k (.bl (!t))
theorem truth_same {d : D} {ah ah' : AH} {b : Bool} (h : truth d ah = .ok b ah') : ah' = ah := by
  unfold truth at h
  repeat' split at h
  all_goals first
    | (injection h with h1 h2; exact h2.symm)
    | cases h
theorem le_eand {c c' : Nat} {m m' : EM D} {p p' : VE U} (h : LE K RU c m p) (h' : LE K RU c' m' p') : LE K RU (sq c c') (eAnd m m') (vEAnd p p') := ⟨fun {ok Γ env ah N X k} o e kk l x => by
  have s := cb_sq c c'
  refine PR.bind (h.to o e kk (by omega) x) (by omega) fun a b ah' ka q g k2 => ?_
  refine PR.bind (lo_truth.to (o.grow g) q k2 (by rw [cb_zero]; omega) ka) (by rw [cb_zero]; omega) fun a2 b2 ah2 ka2 q2 g2 k3 => ?_
  cases q2
  exact PR.ite ka2 (fun z => (h'.to ((o.grow g).grow g2) ((e.grow o g).grow (o.grow g) g2) k3 (by rw [cb_zero]; omega) z).le (by rw [cb_zero]; omega)) fun z => .okI z (R.grow q (o.grow g) g2) (K.mono k3 (by rw [cb_zero]; omega))⟩
theorem le_eor {c c' : Nat} {m m' : EM D} {p p' : VE U} (h : LE K RU c m p) (h' : LE K RU c' m' p') : LE K RU (sq c c') (eOr m m') (vEOr p p') := ⟨fun {ok Γ env ah N X k} o e kk l x => by
  have s := cb_sq c c'
  refine PR.bind (h.to o e kk (by omega) x) (by omega) fun a b ah' ka q g k2 => ?_
  refine PR.bind (lo_truth.to (o.grow g) q k2 (by rw [cb_zero]; omega) ka) (by rw [cb_zero]; omega) fun a2 b2 ah2 ka2 q2 g2 k3 => ?_
  cases q2
  exact PR.ite ka2 (fun z => .okI z (R.grow q (o.grow g) g2) (K.mono k3 (by rw [cb_zero]; omega))) fun z => (h'.to ((o.grow g).grow g2) ((e.grow o g).grow (o.grow g) g2) k3 (by rw [cb_zero]; omega) z).le (by rw [cb_zero]; omega)⟩
theorem le_enot {c : Nat} {m : EM D} {p : VE U} (h : LE K RU c m p) : LE K RU (sq c 0) (eNot m) (vENot p) :=
  le_1 (f := fun d ah => (truth d ah).bind fun k ah2 => Res.ok (D.bl (!k)) ah2) (pf := fun u X k => vTruth u X fun t => k (U.bl (!t))) (Q' := RU) (c' := 0) h ⟨fun {ok ah N X k a b} o q kk l x => by
    refine PR.bind (lo_truth.to o q kk (by rw [cb_zero] at l ⊢; exact l) x) (Nat.le_refl _) fun a2 b2 ah2 ka2 q2 g2 k3 => ?_
    cases q2
    exact .okI ka2 (show R ok ah2 _ _ by simp only [R]) k3⟩
/-! numbers, texts -/
abbrev V1o (γ : Type) := U → ExK → (γ → Prop) → Prop
abbrev V2o (γ : Type) := U → U → ExK → (γ → Prop) → Prop
def vAdd : V2o U
  | .int i, .int j, _, k => k (.int (i + j))
  | .str x, .str y, _, k => x.length + y.length ≤ line ∧ k (.str (x ++ y))
  | .tup xs, .tup ys, _, k => xs.length + ys.length ≤ line ∧ k (.tup (xs ++ ys))
  | .int i, .bl b, _, k => k (.int (i + dI b))
  | .bl b, .int j, _, k => k (.int (dI b + j))
  | .bl a, .bl b, _, k => k (.int (dI a + dI b))
  | _, _, _, _ => False
theorem lo_add : LO2 K RU RU RU oAdd vAdd := ⟨fun {ok ah N X k a b a' b'} o q q' kk x => by
  change R ok ah a b at q
  change R ok ah a' b' at q'
  unfold vAdd at x
  split at x <;> try simp only [R] at q q'
  · subst q; subst q'; exact .okI x (show R ok ah _ _ by simp only [R]) kk
  · subst q; subst q'; unfold oAdd; simp only; rw [if_pos x.1]; exact .okI x.2 (show R ok ah _ _ by simp only [R]) kk
  · obtain ⟨ds, rfl, r⟩ := q; obtain ⟨es, rfl, s⟩ := q'
    unfold oAdd; simp only; rw [if_pos (show ds.length + es.length ≤ line by rw [← r.len, ← s.len]; exact x.1)]
    exact .okI x.2 (show R ok ah _ _ by simp only [R]; exact ⟨_, rfl, r.app s⟩) kk
  · subst q; subst q'; exact .okI x (show R ok ah _ _ by simp only [R]) kk
  · subst q; subst q'; exact .okI x (show R ok ah _ _ by simp only [R]) kk
  · subst q; subst q'; exact .okI x (show R ok ah _ _ by simp only [R]) kk
  · exact x.elim⟩
def vAddA : V2o U
  | .lst xs, .lst ys, _, k => xs.length + ys.length ≤ line ∧ k (.lst (xs ++ ys))
  | x, y, X, k => vAdd x y X k
theorem lo_addA : LO2 K RU RU RU oAddA vAddA := ⟨fun {ok ah N X k a b a' b'} o q q' kk x => by
  have gen : (∀ n m, b = .ref n → b' = .ref m → False) → vAdd a a' X k → PR K ok ah N RU X k (oAddA b b' ah) := fun hn x => by
    have : oAddA b b' ah = oAdd b b' ah := by
      unfold oAddA
      split
      · rename_i n m _; exact (hn _ _ rfl rfl).elim
      · rfl
    rw [this]
    exact lo_add.to o q q' kk x
  unfold vAddA at x
  split at x
  · change R ok ah _ _ at q
    change R ok ah _ _ at q'
    simp only [R] at q q'
    obtain ⟨n, ds, rfl, _, h, r⟩ := q; obtain ⟨m, es, rfl, _, h', s⟩ := q'
    unfold oAddA
    simp only [h, h']
    rw [if_pos (by rw [← r.len, ← s.len]; exact x.1)]
    exact .newI x.2 (show R ok _ _ _ by simp only [R]; exact ⟨_, _, rfl, o.fresh _ (Nat.le_refl _), by simp, (r.app s).grow o Grow.app⟩) kk
  · refine gen (fun n m e1 e2 => ?_) x
    subst e1; subst e2
    change R ok ah _ _ at q
    change R ok ah _ _ at q'
    unfold vAdd at x
    split at x <;> first | exact x.elim | (simp only [R] at q; first | (cases q; done) | (obtain ⟨_, e, _⟩ := q; cases e))⟩
def vSub : V2o U
  | .int i, .int j, _, k => k (.int (i - j))
  | .int i, .bl b, _, k => k (.int (i - dI b))
  | .bl b, .int j, _, k => k (.int (dI b - j))
  | .bl a, .bl b, _, k => k (.int (dI a - dI b))
  | _, _, _, _ => False
theorem lo_sub : LO2 K RU RU RU oSub vSub := ⟨fun {ok ah N X k a b a' b'} o q q' kk x => by
  change R ok ah a b at q
  change R ok ah a' b' at q'
  unfold vSub at x
  split at x <;> first | exact x.elim | (simp only [R] at q q'; subst q; subst q'; exact .okI x (show R ok ah _ _ by simp only [R]) kk)⟩
def vMul : V2o U
  | .int i, .int j, _, k => mulOk i j = true ∧ k (.int (i * j))
  | .tup xs, .int n, _, k => (xs ≠ [] ∧ 1 ≤ n ∧ n ≤ 1000 ∧ xs.length ≤ 1000) ∧ k (.tup (List.replicate n.toNat xs).flatten)
  | _, _, _, _ => False
theorem lo_mulT : LO2 K RU RU RU oMulT vMul := ⟨fun {ok ah N X k a b a' b'} o q q' kk x => by
  change R ok ah a b at q
  change R ok ah a' b' at q'
  unfold vMul at x
  split at x
  · simp only [R] at q q'
    subst q; subst q'; unfold oMulT oMul; simp only; rw [if_pos x.1]; exact .okI x.2 (show R ok ah _ _ by simp only [R]) kk
  · rename_i xs n
    simp only [R] at q q'
    obtain ⟨ds, rfl, r⟩ := q
    subst q'
    obtain ⟨⟨h1, h2, h3, h4⟩, x⟩ := x
    by_cases h5 : n = 1
    · subst h5
      unfold oMulT
      simp only
      refine .okI x (show R ok ah _ _ from ?_) kk
      simp only [R]
      exact ⟨ds, rfl, by simpa using r⟩
    · have : oMulT (.tup ds) (.int n) ah = oMul (.tup ds) (.int n) ah := by
        unfold oMulT
        split
        · rename_i e; cases e; exact absurd rfl h5
        · rfl
      rw [this]
      unfold oMul
      simp only
      rw [if_pos ⟨fun z => h1 (by subst z; have := r.len; simpa using this), by omega, h3, by rw [← r.len]; exact h4⟩]
      exact .okI x (show R ok ah _ _ by simp only [R]; exact ⟨_, rfl, r.rep _⟩) kk
  · exact x.elim⟩
def vMulI : V2o U
  | .int i, .int j, _, k => mulOk i j = true ∧ k (.int (i * j))
  | .tup xs, .int n, _, k => (xs ≠ [] ∧ 2 ≤ n ∧ n ≤ 1000 ∧ xs.length ≤ 1000) ∧ k (.tup (List.replicate n.toNat xs).flatten)
  | _, _, _, _ => False
theorem lo_mul : LO2 K RU RU RU oMul vMulI := ⟨fun {ok ah N X k a b a' b'} o q q' kk x => by
  change R ok ah a b at q
  change R ok ah a' b' at q'
  unfold vMulI at x
  split at x
  · simp only [R] at q q'
    subst q; subst q'; unfold oMul; simp only; rw [if_pos x.1]; exact .okI x.2 (show R ok ah _ _ by simp only [R]) kk
  · rename_i xs n
    simp only [R] at q q'
    obtain ⟨ds, rfl, r⟩ := q
    subst q'
    obtain ⟨⟨h1, h2, h3, h4⟩, x⟩ := x
    unfold oMul
    simp only
    rw [if_pos ⟨fun z => h1 (by subst z; have := r.len; simpa using this), by omega, h3, by rw [← r.len]; exact h4⟩]
    exact .okI x (show R ok ah _ _ by simp only [R]; exact ⟨_, rfl, r.rep _⟩) kk
  · exact x.elim⟩
def vFdiv : V2o U
  | .int i, .int j, _, k => (0 < j ∧ j.natAbs.log2 < 9000) ∧ k (.int (i / j))
  | _, _, _, _ => False
def vMod : V2o U
  | .int i, .int j, _, k => 0 < j ∧ k (.int (i % j))
  | _, _, _, _ => False
def vPow : V2o U
  | .int i, .int j, _, k => (0 ≤ j ∧ j ≤ 1000000 ∧ i.natAbs < 2 ^ 64) ∧ k (.int (i ^ j.toNat))
  | _, _, _, _ => False
theorem lo_fdiv : LO2 K RU RU RU oFdiv vFdiv := ⟨fun {ok ah N X k a b a' b'} o q q' kk x => by
  change R ok ah a b at q
  change R ok ah a' b' at q'
  unfold vFdiv at x
  split at x <;> first | exact x.elim | (simp only [R] at q q'; subst q; subst q'; unfold oFdiv; simp only; rw [if_pos x.1]; exact .okI x.2 (show R ok ah _ _ by simp only [R]) kk)⟩
theorem lo_mod : LO2 K RU RU RU oMod vMod := ⟨fun {ok ah N X k a b a' b'} o q q' kk x => by
  change R ok ah a b at q
  change R ok ah a' b' at q'
  unfold vMod at x
  split at x <;> first | exact x.elim | (simp only [R] at q q'; subst q; subst q'; unfold oMod; simp only; rw [if_pos x.1]; exact .okI x.2 (show R ok ah _ _ by simp only [R]) kk)⟩
theorem lo_pow : LO2 K RU RU RU oPow vPow := ⟨fun {ok ah N X k a b a' b'} o q q' kk x => by
  change R ok ah a b at q
  change R ok ah a' b' at q'
  unfold vPow at x
  split at x <;> first | exact x.elim | (simp only [R] at q q'; subst q; subst q'; unfold oPow; simp only; rw [if_pos x.1]; exact .okI x.2 (show R ok ah _ _ by simp only [R]) kk)⟩
def vNeg : V1o U
  | .int i, _, k => k (.int (-i))
  | _, _, _ => False
theorem lo_neg : LO1 K RU RU 0 oNeg vNeg := ⟨fun {ok ah N X k a b} o q kk l x => by
  change R ok ah a b at q
  unfold vNeg at x
  split at x <;> first | exact x.elim | (simp only [R] at q; subst q; exact .okI x (show R ok ah _ _ by simp only [R]) kk)⟩
/-! comparisons -/
def vEq : V2o Bool
  | .int i, .int j, _, k => k (decide (i = j))
  | .str i, .str j, _, k => k (decide (i = j))
  | .bl i, .bl j, _, k => k (decide (i = j))
  | .tup [], .tup ys, _, k => k ys.isEmpty
  | .tup xs, .tup [], _, k => k xs.isEmpty
  | x, y, _, k => match uP 63 x, uP 63 y with
    | some p, some q => (SeqAt.shaped p = true ∧ SeqAt.shaped q = true) ∧ k (PyData.eqv p q)
    | _, _ => False
def vLt : V2o Bool
  | .int i, .int j, _, k => k (decide (i < j))
  | .str a, .str b, _, k => k (decide (a.cps.toList < b.cps.toList))
  | _, _, _, _ => False
def vLe : V2o Bool
  | .int i, .int j, _, k => k (decide (i ≤ j))
  | _, _, _, _ => False
def vGt : V2o Bool
  | .int i, .int j, _, k => k (decide (j < i))
  | _, _, _, _ => False
def vGe : V2o Bool
  | .int i, .int j, _, k => k (decide (j ≤ i))
  | _, _, _, _ => False
theorem lo_lt : LO2 K RU RU (REq Bool) cLt vLt := ⟨fun {ok ah N X k a b a' b'} o q q' kk x => by
  change R ok ah a b at q
  change R ok ah a' b' at q'
  unfold vLt at x
  split at x <;> first | exact x.elim | (simp only [R] at q q'; subst q; subst q'; exact .okI x rfl kk)⟩
theorem lo_le : LO2 K RU RU (REq Bool) cLe vLe := ⟨fun {ok ah N X k a b a' b'} o q q' kk x => by
  change R ok ah a b at q
  change R ok ah a' b' at q'
  unfold vLe at x
  split at x <;> first | exact x.elim | (simp only [R] at q q'; subst q; subst q'; exact .okI x rfl kk)⟩
theorem lo_gt : LO2 K RU RU (REq Bool) cGt vGt := ⟨fun {ok ah N X k a b a' b'} o q q' kk x => by
  change R ok ah a b at q
  change R ok ah a' b' at q'
  unfold vGt at x
  split at x <;> first | exact x.elim | (simp only [R] at q q'; subst q; subst q'; exact .okI x rfl kk)⟩
theorem lo_ge : LO2 K RU RU (REq Bool) cGe vGe := ⟨fun {ok ah N X k a b a' b'} o q q' kk x => by
  change R ok ah a b at q
  change R ok ah a' b' at q'
  unfold vGe at x
  split at x <;> first | exact x.elim | (simp only [R] at q q'; subst q; subst q'; exact .okI x rfl kk)⟩
theorem optAll_len {α β : Type} {f : α → Option β} : ∀ {xs : List α} {ys : List β}, optAll f xs = some ys → ys.length = xs.length
  | [], ys, h => by unfold optAll at h; cases h; rfl
  | x :: xs, ys, h => by
    unfold optAll at h
    split at h
    · rename_i b bs h1 h2
      cases h
      simp [optAll_len h2]
    · cases h
theorem cEq_nilL (ds : List D) (ah : AH) : cEq (.tup []) (.tup ds) ah = .ok ds.isEmpty ah := by
  unfold cEq
  simp only
  split
  · rename_i b h
    unfold eqData at h
    split at h
    · rename_i p q h1 h2
      split at h
      · cases h
        unfold pd deep toP at h1 h2
        simp only [optAll, Option.map_some, Option.some.injEq] at h1
        rw [Option.map_eq_some_iff] at h2
        obtain ⟨ps, e1, rfl⟩ := h2
        subst h1
        have := optAll_len e1
        cases ps <;> cases ds <;> simp [PyData.eqv, PyData.eqvAll] at this ⊢
      · cases h
    · cases h
  · simp [eqLen]
theorem cEq_nilR (ds : List D) (ah : AH) : cEq (.tup ds) (.tup []) ah = .ok ds.isEmpty ah := by
  unfold cEq
  simp only
  split
  · rename_i b h
    unfold eqData at h
    split at h
    · rename_i p q h1 h2
      split at h
      · cases h
        unfold pd deep toP at h1 h2
        simp only [optAll, Option.map_some, Option.some.injEq] at h2
        rw [Option.map_eq_some_iff] at h1
        obtain ⟨ps, e1, rfl⟩ := h1
        subst h2
        have := optAll_len e1
        cases ps <;> cases ds <;> simp [PyData.eqv, PyData.eqvAll] at this ⊢
      · cases h
    · cases h
  · simp [eqLen]
theorem lo_eq : LO2 K RU RU (REq Bool) cEq vEq := ⟨fun {ok ah N X k a b a' b'} o q q' kk x => by
  change R ok ah a b at q
  change R ok ah a' b' at q'
  unfold vEq at x
  split at x
  · simp only [R] at q q'; subst q; subst q'; exact .okI x rfl kk
  · simp only [R] at q q'; subst q; subst q'; exact .okI x rfl kk
  · simp only [R] at q q'; subst q; subst q'; exact .okI x rfl kk
  · simp only [R] at q q'
    obtain ⟨ds, rfl, r⟩ := q; obtain ⟨es, rfl, s⟩ := q'
    simp only [Rs] at r
    subst r
    rw [cEq_nilL]
    exact .okI x (show _ = _ by rw [empty_of s.len]) kk
  · simp only [R] at q q'
    obtain ⟨ds, rfl, r⟩ := q; obtain ⟨es, rfl, s⟩ := q'
    simp only [Rs] at s
    subst s
    rw [cEq_nilR]
    exact .okI x (show _ = _ by rw [empty_of r.len]) kk
  · rename_i h1 h2 h3 h4 h5
    split at x
    · rename_i p p' e1 e2
      have d1 := uP_toP _ _ _ _ q e1
      have d2 := uP_toP _ _ _ _ q' e2
      have : eqData ah b b' = some (PyData.eqv p p') := by
        unfold eqData pd deep
        rw [d1, d2]
        simp only
        rw [if_pos x.1]
      have : cEq b b' ah = .ok (PyData.eqv p p') ah := by
        unfold cEq
        split
        · rename_i i j
          unfold eqData at this
          have e3 : PyData.int i = p := by unfold toP at d1; exact Option.some.inj d1
          have e4 : PyData.int j = p' := by unfold toP at d2; exact Option.some.inj d2
          subst e3; subst e4
          simp only [PyData.eqv]
          rfl
        · rename_i i j
          have e3 : PyData.str i = p := by unfold toP at d1; exact Option.some.inj d1
          have e4 : PyData.str j = p' := by unfold toP at d2; exact Option.some.inj d2
          subst e3; subst e4
          simp only [PyData.eqv]
          congr 1
        · rename_i i j
          have e3 : PyData.bool i = p := by unfold toP at d1; exact Option.some.inj d1
          have e4 : PyData.bool j = p' := by unfold toP at d2; exact Option.some.inj d2
          subst e3; subst e4
          simp only [PyData.eqv]
          congr 1
        · rw [this]
      rw [this]
      exact .okI x.2 rfl kk
    · exact x.elim⟩
def vNe : V2o Bool := fun a b X k => vEq a b X fun t => k (!t)
theorem lo_ne : LO2 K RU RU (REq Bool) cNe vNe := ⟨fun {ok ah N X k a b a' b'} o q q' kk x =>
  PR.bind (lo_eq.to o q q' kk x) (Nat.le_refl _) fun a b ah' ka e g kk' => by cases e; exact .okI ka rfl kk'⟩
end
end HV

/-! V3: more operations: in, is, index, slices, calls of built-ins, lists. -/
namespace HV
open PySem PySem.Spec PyProof.Rows L2 HA
section
variable {K : Dks} {α β γ δ α' β' γ' δ' : Type}
/-! chain -/
def vChain (a b c : VE U) (f g : V2o Bool) : VE Bool := fun Γ X k => a Γ X fun x => b Γ X fun y => f x y X fun t => if t = true then c Γ X fun z => g y z X k else k false
theorem le_chain {c1 c2 c3 : Nat} {ma mb mc : EM D} {a b c : VE U} {fo go : D → D → AH → Res Bool} {f g : V2o Bool} (ha : LE K RU c1 ma a) (hb : LE K RU c2 mb b) (hc : LE K RU c3 mc c) (hf : LO2 K RU RU (REq Bool) fo f) (hg : LO2 K RU RU (REq Bool) go g) : LE K (REq Bool) (sq c1 (sq c2 c3)) (bChain ma mb mc fo go) (vChain a b c f g) := ⟨fun {ok Γ env ah N X k} o e kk l x => by
  have s := cb_sq c1 (sq c2 c3)
  have s' := cb_sq c2 c3
  refine PR.bind (ha.to o e kk (by omega) x) (by omega) fun a b ah1 ka q1 g1 k1 => ?_
  have o1 := o.grow g1
  have e1 := e.grow o g1
  refine PR.bind (hb.to o1 e1 k1 (by omega) ka) (by omega) fun a2 b2 ah2 ka2 q2 g2 k2 => ?_
  have o2 := o1.grow g2
  have e2 := e1.grow o1 g2
  refine PR.bind (hf.to o2 (R.grow q1 o1 g2) q2 k2 ka2) (by omega) fun a3 b3 ah3 ka3 q3 g3 k3 => ?_
  cases q3
  refine PR.ite ka3 (fun z => ?_) fun z => .okI z rfl (K.mono k3 (by omega))
  have o3 := o2.grow g3
  refine PR.bind (hc.to o3 (e2.grow o2 g3) k3 (by omega) z) (by omega) fun a4 b4 ah4 ka4 q4 g4 k4 => ?_
  exact (hg.to (o3.grow g4) (R.grow (R.grow q2 o2 g3) o3 g4) q4 k4 ka4).le (by omega)⟩
/-! in, is -/
def uKey : U → Option Key
  | .int i => some (.inl i)
  | .str x => some (.inr x)
  | _ => none
theorem uKey_d {ok : Nat → Prop} {ah : AH} {u : U} {d : D} {kk : Key} (h : R ok ah u d) (e : uKey u = some kk) : dKey d = some kk := by
  unfold uKey at e
  split at e
  · simp only [R] at h; subst h; exact e
  · simp only [R] at h; subst h; exact e
  · cases e
def uIn (x : U) (us : List U) (k : Bool → Prop) : Prop := match uP 63 x, optAll (uP 62) us with
  | some p, some ps => (SeqAt.shaped p = true ∧ PyData.canLayAll0 ps = true) ∧ k (ps.any fun z => PyData.eqv z p)
  | _, _ => False
theorem uIn_d {ok : Nat → Prop} {ah : AH} {u : U} {us : List U} {d : D} {ds : List D} {k : Bool → Prop} (h : R ok ah u d) (r : Rs ok ah us ds) (x : uIn u us k) : ∃ b, inData ah d ds = some b ∧ k b := by
  unfold uIn at x
  split at x
  · rename_i p ps h1 h2
    refine ⟨_, ?_, x.2⟩
    unfold inData pd deep
    rw [uP_toP _ _ _ _ h h1, optAll_uP (uP_toP (ok := ok) (ah := ah) 62) us ds ps r h2]
    simp only
    rw [if_pos x.1]
  · exact x.elim
def vIn : V2o Bool
  | .str a, .str b, _, k => k (strIn a b)
  | x, .tup us, _, k => uIn x us k
  | x, .lst us, _, k => uIn x us k
  | x, .dK ks us, _, k => match uKey x with
    | some kk => k (ks.any fun z => decide (z = kk))
    | none => False
  | _, _, _, _ => False
theorem lo_in : LO2 K RU RU (REq Bool) cIn vIn := ⟨fun {ok ah N X k a b a' b'} o q q' kk x => by
  change R ok ah a b at q
  change R ok ah a' b' at q'
  unfold vIn at x
  split at x
  · simp only [R] at q q'; subst q; subst q'; exact .okI x rfl kk
  · simp only [R] at q'
    obtain ⟨es, rfl, s⟩ := q'
    obtain ⟨t, h1, h2⟩ := uIn_d q s x
    unfold cIn
    simp only [h1]
    exact .okI h2 rfl kk
  · simp only [R] at q'
    obtain ⟨n, es, rfl, _, h, s⟩ := q'
    obtain ⟨t, h1, h2⟩ := uIn_d q s x
    unfold cIn
    simp only [h, h1]
    exact .okI h2 rfl kk
  · simp only [R] at q'
    obtain ⟨n, es, rfl, _, h, z, s⟩ := q'
    split at x
    · rename_i k1 hk
      unfold cIn
      simp only [h, uKey_d q hk]
      exact .okI x (show _ = _ by rw [← z, List.any_map]; rfl) kk
    · exact x.elim
  · exact x.elim⟩
def vNotIn : V2o Bool := fun a b X k => vIn a b X fun t => k (!t)
theorem lo_notIn : LO2 K RU RU (REq Bool) cNotIn vNotIn := ⟨fun {ok ah N X k a b a' b'} o q q' kk x =>
  PR.bind (lo_in.to o q q' kk x) (Nat.le_refl _) fun a b ah' ka e g kk' => by cases e; exact .okI ka rfl kk'⟩
def uNon : U → Bool
  | .non => true
  | .cst w => decide (w = .non)
  | _ => false
def vIs : V2o Bool
  | .bl a, .bl b, _, k => k (decide (a = b))
  | x, .non, _, k => k (uNon x)
  | _, _, _, _ => False
theorem lo_is : LO2 K RU RU (REq Bool) cIs vIs := ⟨fun {ok ah N X k a b a' b'} o q q' kk x => by
  change R ok ah a b at q
  change R ok ah a' b' at q'
  unfold vIs at x
  split at x
  · simp only [R] at q q'; subst q; subst q'; exact .okI x rfl kk
  · simp only [R] at q'; subst q'
    have e : cIs b .non ah = .ok b.isNon ah := by cases b <;> rfl
    rw [e]
    refine .okI x ?_ kk
    cases a <;> (try simp only [R] at q) <;> first | (subst q; rfl) | (obtain ⟨_, rfl, _⟩ := q; rfl) | (obtain ⟨_, _, rfl, _⟩ := q; rfl)
  · exact x.elim⟩
def vIsNot : V2o Bool := fun a b X k => vIs a b X fun t => k (!t)
theorem lo_isNot : LO2 K RU RU (REq Bool) cIsNot vIsNot := ⟨fun {ok ah N X k a b a' b'} o q q' kk x =>
  PR.bind (lo_is.to o q q' kk x) (Nat.le_refl _) fun a b ah' ka e g kk' => by cases e; exact .okI ka rfl kk'⟩
/-! sequences -/
def vListOf : V1o (List U)
  | .lst us, _, k => k us
  | _, _, _ => False
theorem lo_listOf : LO1 K RU RUs 0 HA.listOf vListOf := ⟨fun {ok ah N X k a b} o q kk l x => by
  change R ok ah a b at q
  unfold vListOf at x
  split at x
  · simp only [R] at q
    obtain ⟨n, ds, rfl, _, h, r⟩ := q
    unfold HA.listOf HA.listAt
    simp only [h]
    exact .okI x r kk
  · exact x.elim⟩
def vSeqOf : V1o (List U)
  | .lst us, _, k => k us
  | .tup us, _, k => k us
  | _, _, _ => False
theorem lo_seqOf : LO1 K RU RUs 0 seqOf vSeqOf := ⟨fun {ok ah N X k a b} o q kk l x => by
  change R ok ah a b at q
  unfold vSeqOf at x
  split at x
  · simp only [R] at q
    obtain ⟨n, ds, rfl, _, h, r⟩ := q
    unfold seqOf HA.listAt
    simp only [h]
    exact .okI x r kk
  · simp only [R] at q
    obtain ⟨ds, rfl, r⟩ := q
    exact .okI x r kk
  · exact x.elim⟩
def vLen : V1o U
  | .str z, _, k => z.length ≤ line ∧ k (.int z.length)
  | .tup us, _, k => k (.int us.length)
  | .lst us, _, k => k (.int us.length)
  | .dK ks _, _, k => k (.int ks.length)
  | _, _, _ => False
def vLenA : List U → ExK → (U → Prop) → Prop
  | [u], X, k => vLen u X k
  | _, _, _ => False
theorem lo_len : LO1 K RUs RU 0 oLenA vLenA := ⟨fun {ok ah N X k a b} o q kk l x => by
  change Rs ok ah a b at q
  unfold vLenA at x
  split at x
  · rename_i u
    simp only [Rs] at q
    obtain ⟨d, es, rfl, q, rfl⟩ := q
    unfold oLenA
    simp only
    unfold vLen at x
    unfold oLen
    split at x
    · simp only [R] at q; subst q; simp only; rw [if_pos x.1]; exact .okI x.2 (show R ok ah _ _ by simp only [R]) kk
    · simp only [R] at q; obtain ⟨ds, rfl, r⟩ := q; exact .okI x (show R ok ah _ _ by simp only [R]; rw [r.len]) kk
    · simp only [R] at q; obtain ⟨n, ds, rfl, _, h, r⟩ := q; simp only [h]; exact .okI x (show R ok ah _ _ by simp only [R]; rw [r.len]) kk
    · simp only [R] at q; obtain ⟨n, ds, rfl, _, h, z, r⟩ := q; simp only [h]; exact .okI x (show R ok ah _ _ by simp only [R]; rw [← z]; simp) kk
    · exact x.elim
  · exact x.elim⟩
def uName : U → Option String
  | .non => some "NoneType"
  | .bl _ => some "bool"
  | .int _ => some "int"
  | .str _ => some "str"
  | .tup _ => some "tuple"
  | .lst _ => some "list"
  | .dK _ _ => some "dict"
  | .dT _ _ => some "dict"
  | _ => none
theorem uName_d {ok : Nat → Prop} {ah : AH} {u : U} {d : D} {a : String} (q : R ok ah u d) (h : uName u = some a) : tyName d ah = some a := by
  unfold uName at h
  unfold tyName
  split at h <;> (try simp only [R] at q) <;> first | (subst q; exact h) | (obtain ⟨_, rfl, _⟩ := q; exact h) | (obtain ⟨_, _, rfl, _, e, _⟩ := q; simp only [e]; exact h) | cases h
def vIsi : List U → ExK → (U → Prop) → Prop
  | [u, .cst (.ty T)], _, k => match uName u with
    | some a => T ∈ tyTable ∧ k (.bl (tyIs a T))
    | none => False
  | _, _, _ => False
theorem lo_isi : LO1 K RUs RU 0 oIsi vIsi := ⟨fun {ok ah N X k a b} o q kk l x => by
  change Rs ok ah a b at q
  unfold vIsi at x
  split at x
  · rename_i u T
    simp only [Rs, R] at q
    obtain ⟨d, es, rfl, q, d2, es2, rfl, rfl, rfl⟩ := q
    split at x
    · rename_i a h
      unfold oIsi
      simp only [uName_d q h]
      rw [if_pos x.1]
      exact .okI x.2 (show R ok ah _ _ by simp only [R]) kk
    · exact x.elim
  · exact x.elim⟩
def ShowOk (p : PyData) : Prop := p.showable = true ∧ p.shown.length ≤ line ∧ p.depth ≤ 63
def vRepr : List U → ExK → (U → Prop) → Prop
  | [u], _, k => match uP 63 u with
    | some p => ShowOk p ∧ k (.str p.shown)
    | none => False
  | _, _, _ => False
theorem lo_repr : LO1 K RUs RU 0 oRepr vRepr := ⟨fun {ok ah N X k a b} o q kk l x => by
  change Rs ok ah a b at q
  unfold vRepr at x
  split at x
  · simp only [Rs, R] at q
    obtain ⟨d, es, rfl, q, rfl⟩ := q
    split at x
    · rename_i p h
      unfold oRepr pd deep
      simp only [uP_toP _ _ _ _ q h]
      rw [if_pos (show p.showable = true ∧ p.shown.length ≤ line ∧ p.depth ≤ 63 from x.1)]
      exact .okI x.2 (show R ok ah _ _ by simp only [R]) kk
    · exact x.elim
  · exact x.elim⟩
def vLRepr : List U → ExK → (U → Prop) → Prop := fun us _ k => match optAll (uP 62) us with
  | some ps => ShowOk (.list ps) ∧ k (.str (PyData.shown (.list ps)))
  | none => False
theorem lo_lrepr : LO1 K RUs RU 0 lRepr vLRepr := ⟨fun {ok ah N X k a b} o q kk l x => by
  change Rs ok ah a b at q
  unfold vLRepr at x
  split at x
  · rename_i ps h
    unfold lRepr
    rw [optAll_uP (uP_toP (ok := ok) (ah := ah) 62) a b ps q h]
    simp only
    rw [if_pos (show (PyData.list ps).showable = true ∧ (PyData.list ps).shown.length ≤ line ∧ (PyData.list ps).depth ≤ 63 from x.1)]
    exact .okI x.2 (show R ok ah _ _ by simp only [R]) kk
  · exact x.elim⟩
def vStr : List U → ExK → (U → Prop) → Prop
  | [.int i], _, k => i.natAbs.log2 < 1920 ∧ k (.str (toString i))
  | [.bl b], _, k => k (.str (if b then "True" else "False"))
  | [.str x], _, k => k (.str x)
  | [.non], _, k => k (.str "None")
  | _, _, _ => False
theorem lo_str : LO1 K RUs RU 0 oStr vStr := ⟨fun {ok ah N X k a b} o q kk l x => by
  change Rs ok ah a b at q
  unfold vStr at x
  split at x <;> (try simp only [Rs, R] at q)
  · obtain ⟨d, es, rfl, rfl, rfl⟩ := q; unfold oStr; simp only; rw [if_pos x.1]; exact .okI x.2 (show R ok ah _ _ by simp only [R]) kk
  · obtain ⟨d, es, rfl, rfl, rfl⟩ := q; exact .okI x (show R ok ah _ _ by simp only [R]) kk
  · obtain ⟨d, es, rfl, rfl, rfl⟩ := q; exact .okI x (show R ok ah _ _ by simp only [R]) kk
  · obtain ⟨d, es, rfl, rfl, rfl⟩ := q; exact .okI x (show R ok ah _ _ by simp only [R]) kk
  · exact x.elim⟩
def vInt : List U → ExK → (U → Prop) → Prop
  | [.int i], _, k => k (.int i)
  | [.bl b], _, k => k (.int (if b then 1 else 0))
  | _, _, _ => False
theorem lo_int : LO1 K RUs RU 0 oInt vInt := ⟨fun {ok ah N X k a b} o q kk l x => by
  change Rs ok ah a b at q
  unfold vInt at x
  split at x <;> (try simp only [Rs, R] at q) <;> first | exact x.elim | (obtain ⟨d, es, rfl, rfl, rfl⟩ := q; exact .okI x (show R ok ah _ _ by simp only [R]) kk)⟩
def vMin : List U → ExK → (U → Prop) → Prop
  | [.int i, .int j], _, k => k (.int (if j < i then j else i))
  | _, _, _ => False
def vMax : List U → ExK → (U → Prop) → Prop
  | [.int i, .int j], _, k => k (.int (if j > i then j else i))
  | _, _, _ => False
theorem lo_min : LO1 K RUs RU 0 oMin vMin := ⟨fun {ok ah N X k a b} o q kk l x => by
  change Rs ok ah a b at q
  unfold vMin at x
  split at x
  · simp only [Rs, R] at q
    obtain ⟨d, es, rfl, rfl, d, es, rfl, rfl, rfl⟩ := q; exact .okI x (show R ok ah _ _ by simp only [R]) kk
  · exact x.elim⟩
theorem lo_max : LO1 K RUs RU 0 oMax vMax := ⟨fun {ok ah N X k a b} o q kk l x => by
  change Rs ok ah a b at q
  unfold vMax at x
  split at x
  · simp only [Rs, R] at q
    obtain ⟨d, es, rfl, rfl, d, es, rfl, rfl, rfl⟩ := q; exact .okI x (show R ok ah _ _ by simp only [R]) kk
  · exact x.elim⟩
def uInt : U → Option Int
  | .int i => some i
  | _ => none
def uBool : U → Option Bool
  | .bl b => some b
  | _ => none
theorem optAll_Rs {γ : Type} {ok : Nat → Prop} {ah : AH} {f : U → Option γ} {g : D → Option γ} (h : ∀ u d z, R ok ah u d → f u = some z → g d = some z) : ∀ (us : List U) (ds : List D) (zs : List γ), Rs ok ah us ds → optAll f us = some zs → optAll g ds = some zs
  | [], _, _, r, e => by simp only [Rs] at r; subst r; exact e
  | u :: us, _, ps, r, e => by
    simp only [Rs] at r
    obtain ⟨d, es, rfl, q, r⟩ := r
    unfold optAll at e ⊢
    split at e
    · rename_i b bs h1 h2
      rw [h u d _ q h1, optAll_Rs h us es _ r h2]
      exact e
    · cases e
theorem uInt_d {ok : Nat → Prop} {ah : AH} (u : U) (d : D) (z : Int) (r : R ok ah u d) (e : uInt u = some z) : dInt d = some z := by
  unfold uInt at e
  split at e
  · simp only [R] at r; subst r; exact e
  · cases e
theorem uBool_d {ok : Nat → Prop} {ah : AH} (u : U) (d : D) (z : Bool) (r : R ok ah u d) (e : uBool u = some z) : dBool d = some z := by
  unfold uBool at e
  split at e
  · simp only [R] at r; subst r; exact e
  · cases e
def vSum (us : List U) (_ : ExK) (k : U → Prop) : Prop := match optAll uInt us with
  | some ns => k (.int ns.sum)
  | none => False
def vAll (us : List U) (_ : ExK) (k : U → Prop) : Prop := match optAll uBool us with
  | some ns => k (.bl (ns.all id))
  | none => False
def vAny (us : List U) (_ : ExK) (k : U → Prop) : Prop := match optAll uBool us with
  | some ns => k (.bl (ns.any id))
  | none => False
theorem lo_sum : LO1 K RUs RU 0 sSum vSum := ⟨fun {ok ah N X k a b} o q kk l x => by
  change Rs ok ah a b at q
  unfold vSum at x
  split at x
  · rename_i ns h
    unfold sSum
    rw [optAll_Rs uInt_d _ _ _ q h]
    exact .okI x (show R ok ah _ _ by simp only [R]) kk
  · exact x.elim⟩
theorem lo_all : LO1 K RUs RU 0 sAll vAll := ⟨fun {ok ah N X k a b} o q kk l x => by
  change Rs ok ah a b at q
  unfold vAll at x
  split at x
  · rename_i ns h
    unfold sAll
    rw [optAll_Rs uBool_d _ _ _ q h]
    exact .okI x (show R ok ah _ _ by simp only [R]) kk
  · exact x.elim⟩
theorem lo_any : LO1 K RUs RU 0 sAny vAny := ⟨fun {ok ah N X k a b} o q kk l x => by
  change Rs ok ah a b at q
  unfold vAny at x
  split at x
  · rename_i ns h
    unfold sAny
    rw [optAll_Rs uBool_d _ _ _ q h]
    exact .okI x (show R ok ah _ _ by simp only [R]) kk
  · exact x.elim⟩
def vTupOf (us : List U) (_ : ExK) (k : U → Prop) : Prop := k (.tup us)
theorem lo_tupOf : LO1 K RUs RU 0 sTup vTupOf := ⟨fun {ok ah N X k a b} o q kk l x => .okI x (show R ok ah _ _ by simp only [R]; exact ⟨b, rfl, q⟩) kk⟩
def vId (us : List U) (_ : ExK) (k : List U → Prop) : Prop := k us
theorem lo_id : LO1 K RUs RUs 0 sList vId := ⟨fun {ok ah N X k a b} o q kk l x => .okI x q kk⟩
def vRevL (us : List U) (_ : ExK) (k : List U → Prop) : Prop := k us.reverse
theorem lo_revL : LO1 K RUs RUs 0 lRevL vRevL := ⟨fun {ok ah N X k a b} o q kk l x => .okI x (Rs.rev q) kk⟩
def vRevT : V1o U
  | .tup us, _, k => k (.tup us.reverse)
  | _, _, _ => False
theorem lo_revT : LO1 K RU RU 0 oRevT vRevT := ⟨fun {ok ah N X k a b} o q kk l x => by
  change R ok ah a b at q
  unfold vRevT at x
  split at x
  · simp only [R] at q
    obtain ⟨ds, rfl, r⟩ := q
    exact .okI x (show R ok ah _ _ by simp only [R]; exact ⟨_, rfl, r.rev⟩) kk
  · exact x.elim⟩
theorem ixD_Rs {ok : Nat → Prop} {ah : AH} {us : List U} {ds : List D} {i : Int} {u : U} (r : Rs ok ah us ds) (h : ixD us i = some u) : ∃ d, ixD ds i = some d ∧ R ok ah u d := by
  unfold ixD at h ⊢
  rw [← r.len]
  cases z : ixN us.length i with
  | none => rw [z] at h; cases h
  | some j => rw [z] at h; exact r.get h
def vIx : V2o U
  | .tup us, .int i, _, k => match ixD us i with
    | some u => k u
    | none => False
  | .lst us, .int i, _, k => match ixD us i with
    | some u => k u
    | none => False
  | .str z, .int i, _, k => z.length ≤ line ∧ match ixD z.cps.toList i with
    | some c => k (.str ⟨#[c]⟩)
    | none => False
  | _, _, _, _ => False
theorem lo_ix : LO2 K RU RU RU oIx vIx := ⟨fun {ok ah N X k a b a' b'} o q q' kk x => by
  change R ok ah a b at q
  change R ok ah a' b' at q'
  unfold vIx at x
  split at x
  · simp only [R] at q q'
    obtain ⟨ds, rfl, r⟩ := q; subst q'
    split at x
    · rename_i u h
      obtain ⟨d, h1, h2⟩ := ixD_Rs r h
      unfold oIx
      simp only [h1]
      exact .okI x h2 kk
    · exact x.elim
  · simp only [R] at q q'
    obtain ⟨n, ds, rfl, _, e, r⟩ := q; subst q'
    split at x
    · rename_i u h
      obtain ⟨d, h1, h2⟩ := ixD_Rs r h
      unfold oIx
      simp only [e, h1]
      exact .okI x h2 kk
    · exact x.elim
  · simp only [R] at q q'
    subst q; subst q'
    obtain ⟨x1, x⟩ := x
    split at x
    · rename_i c h
      unfold oIx
      simp only [h]
      rw [if_pos x1]
      exact .okI x (show R ok ah _ _ by simp only [R]) kk
    · exact x.elim
  · exact x.elim⟩
def vLIx (us : List U) (d : U) (_ : ExK) (k : U → Prop) : Prop := match d with
  | .int i => match ixD us i with
    | some u => k u
    | none => False
  | _ => False
theorem lo_lix : LO2 K RUs RU RU lIx vLIx := ⟨fun {ok ah N X k a b a' b'} o q q' kk x => by
  change Rs ok ah a b at q
  change R ok ah a' b' at q'
  unfold vLIx at x
  split at x
  · simp only [R] at q'
    subst q'
    split at x
    · rename_i u h
      obtain ⟨d, h1, h2⟩ := ixD_Rs q h
      unfold lIx
      simp only [h1]
      exact .okI x h2 kk
    · exact x.elim
  · exact x.elim⟩
theorem Rs.cut {ok : Nat → Prop} {ah : AH} {us : List U} {ds : List D} (r : Rs ok ah us ds) (lo hi : Option Int) : Rs ok ah (HA.cut us lo hi) (HA.cut ds lo hi) := by
  unfold HA.cut
  rw [← r.len]
  exact (r.drop _).take _
def vPart (m : Option (VE U)) : VE (Option Int) := match m with
  | none => fun _ _ k => k none
  | some p => fun Γ X k => p Γ X fun u => match u with
    | .int i => k (some i)
    | _ => False
theorem le_pnone : LE K (REq (Option Int)) 0 (oPart none) (vPart none) := ⟨fun o e kk l x => .okI x rfl kk⟩
theorem le_psome {c : Nat} {m : EM D} {p : VE U} (h : LE K RU c m p) : LE K (REq (Option Int)) (sq c 0) (oPart (some m)) (vPart (some p)) := ⟨fun {ok Γ env ah N X k} o e kk l x => by
  have s := cb_sq c 0
  refine PR.bind (h.to o e kk (by omega) x) (cb_left c 0 |> Nat.add_le_add_left (k := N)) fun a b ah' ka q g k2 => ?_
  change R ok ah' a b at q
  split at ka
  · simp only [R] at q; subst q; exact .okI ka rfl (K.mono k2 (by omega))
  · exact ka.elim⟩
def vCut (u : U) (lo hi : Option Int) (_ : ExK) (k : U → Prop) : Prop := match u with
  | .tup us => k (.tup (HA.cut us lo hi))
  | _ => False
theorem lo_cut : LO3 K RU (REq (Option Int)) (REq (Option Int)) RU oCut vCut := ⟨fun {ok ah N X k a b a' b' a2 b2} o q q1 q2 kk x => by
  change R ok ah a b at q
  cases q1; cases q2
  unfold vCut at x
  split at x
  · simp only [R] at q
    obtain ⟨ds, rfl, r⟩ := q
    exact .okI x (show R ok ah _ _ by simp only [R]; exact ⟨_, rfl, r.cut _ _⟩) kk
  · exact x.elim⟩
def vLCut (u : U) (lo hi : Option Int) (_ : ExK) (k : List U → Prop) : Prop := match u with
  | .lst us => k (HA.cut us lo hi)
  | _ => False
theorem lo_lcut : LO3 K RU (REq (Option Int)) (REq (Option Int)) RUs (fun d lo hi ah => (HA.listOf d ah).bind fun ds ah => lCut ds lo hi ah) vLCut := ⟨fun {ok ah N X k a b a' b' a2 b2} o q q1 q2 kk x => by
  change R ok ah a b at q
  cases q1; cases q2
  unfold vLCut at x
  split at x
  · simp only [R] at q
    obtain ⟨n, ds, rfl, _, h, r⟩ := q
    unfold HA.listOf HA.listAt
    simp only [h]
    exact .okI x (Rs.cut r _ _) kk
  · exact x.elim⟩
/-! lists told by their items -/
def RLt : Rl (List U) LT := ⟨fun ok ah us t => match t with
  | .inl ds => Rs ok ah us ds
  | .inr n => ∃ ds, ok n ∧ ah[n]? = some (.lst ds) ∧ Rs ok ah us ds, fun {ok ok' ah ah' a b} h1 h2 h => by
    cases b with
    | inl ds => exact Rs.mono h1 h2 _ _ h
    | inr n => obtain ⟨ds, o, e, r⟩ := h; exact ⟨ds, h1 n o, h2 n _ o e, Rs.mono h1 h2 _ _ r⟩⟩
theorem le_tnew {c : Nat} {m : EM (List D)} {p : VE (List U)} (h : LE K RUs c m p) : LE K RLt (sq c 0) (tNew m) (v1 p vId) := le_1 h ⟨fun {ok ah N X k a b} o q kk l x => .okI x q kk⟩
theorem le_tour {c : Nat} {m : EM D} {p : VE U} (h : LE K RU c m p) : LE K RLt (sq c 0) (tOur m) (v1 p vListOf) := le_1 h ⟨fun {ok ah N X k a b} o q kk l x => by
  change R ok ah a b at q
  unfold vListOf at x
  split at x
  · simp only [R] at q
    obtain ⟨n, ds, rfl, on, h, r⟩ := q
    exact .okI x ⟨ds, on, h, r⟩ kk
  · exact x.elim⟩
theorem ltOf_R {ok : Nat → Prop} {ah : AH} {us : List U} {t : LT} (h : RLt.r ok ah us t) : ∃ ds, ltOf t ah = some ds ∧ Rs ok ah us ds := by
  cases t with
  | inl ds => exact ⟨ds, rfl, h⟩
  | inr n => obtain ⟨ds, o, e, r⟩ := h; exact ⟨ds, by unfold ltOf; simp only [e], r⟩
def vCat (xs ys : List U) (_ : ExK) (k : List U → Prop) : Prop := xs.length + ys.length ≤ line ∧ k (xs ++ ys)
theorem lo_cat : LO2 K RLt RLt RUs lCat vCat := ⟨fun {ok ah N X k a b a' b'} o q q' kk x => by
  obtain ⟨ds, h, r⟩ := ltOf_R q
  obtain ⟨es, h', s⟩ := ltOf_R q'
  unfold lCat
  rw [h, h']
  simp only
  rw [if_pos (by rw [← r.len, ← s.len]; exact x.1)]
  exact .okI x.2 (Rs.app r s) kk⟩
def vRep (xs : List U) (y : U) (_ : ExK) (k : List U → Prop) : Prop := match y with
  | .int n => (-(2 ^ 63) ≤ n ∧ n < 2 ^ 63 ∧ xs.length * n.toNat ≤ line) ∧ k (List.replicate n.toNat xs).flatten
  | _ => False
theorem lo_rep : LO2 K RLt RU RUs lRep vRep := ⟨fun {ok ah N X k a b a' b'} o q q' kk x => by
  obtain ⟨ds, h, r⟩ := ltOf_R q
  change R ok ah a' b' at q'
  unfold vRep at x
  split at x
  · simp only [R] at q'
    subst q'
    unfold lRep
    rw [h]
    simp only
    rw [if_pos (by rw [← r.len]; exact x.1)]
    exact .okI x.2 (Rs.rep r _) kk
  · exact x.elim⟩
def vNil (neg : Bool) (us : List U) (_ : ExK) (k : Bool → Prop) : Prop := match us with
  | [] => k (!neg)
  | us => match optAll (uP 62) us with
    | some ps => SeqAt.shaped (.list ps) = true ∧ k neg
    | none => False
theorem lo_nil (neg : Bool) : LO1 K RUs (REq Bool) 0 (lNil neg) (vNil neg) := ⟨fun {ok ah N X k a b} o q kk l x => by
  change Rs ok ah a b at q
  unfold vNil at x
  split at x
  · simp only [Rs] at q; subst q; exact .okI x rfl kk
  · rename_i hn
    split at x
    · rename_i ps h
      have e := optAll_uP (uP_toP (ok := ok) (ah := ah) 62) a b ps q h
      unfold lNil
      split
      · rename_i e2
        have := q.len
        cases a with
        | nil => exact absurd rfl hn
        | cons _ _ => simp at this
      · rw [e]
        simp only
        rw [if_pos x.1]
        exact .okI x.2 rfl kk
    · exact x.elim⟩
theorem le_nil {neg : Bool} {c : Nat} {m : EM (List D)} {p : VE (List U)} (h : LE K RUs c m p) : LE K (REq Bool) (sq c 0) (bNil neg m) (v1 p (vNil neg)) := le_1 h (lo_nil neg)
def vRange (i j : Int) (k : List U → Prop) : Prop := (-(2 ^ 62) ≤ i ∧ i < 2 ^ 62 ∧ -(2 ^ 62) ≤ j ∧ j < 2 ^ 62 ∧ (j - i).toNat ≤ 2 ^ 24) ∧ k ((List.range (j - i).toNat).map fun (n : Nat) => U.int (i + n))
def vRange1 : V1o (List U)
  | .int j, _, k => vRange 0 j k
  | _, _, _ => False
def vRange2 : V2o (List U)
  | .int i, .int j, _, k => vRange i j k
  | _, _, _, _ => False
theorem Rs.range {ok : Nat → Prop} {ah : AH} (i : Int) (n : Nat) : Rs ok ah ((List.range n).map fun (n : Nat) => U.int (i + n)) ((List.range n).map fun (n : Nat) => D.int (i + n)) := by
  have := Rs.of_ints (ok := ok) (ah := ah) ((List.range n).map fun (n : Nat) => i + (n : Int))
  simpa [Function.comp_def] using this
theorem lo_lrange1 : LO1 K RU RUs 0 lRange1 vRange1 := ⟨fun {ok ah N X k a b} o q kk l x => by
  change R ok ah a b at q
  unfold vRange1 vRange at x
  split at x
  · simp only [R] at q; subst q
    unfold lRange1 lRange
    simp only
    rw [if_pos x.1]
    exact .okI x.2 (Rs.range _ _) kk
  · exact x.elim⟩
theorem lo_lrange2 : LO2 K RU RU RUs lRange2 vRange2 := ⟨fun {ok ah N X k a b a' b'} o q q' kk x => by
  change R ok ah a b at q
  change R ok ah a' b' at q'
  unfold vRange2 vRange at x
  split at x
  · simp only [R] at q q'; subst q; subst q'
    unfold lRange2 lRange
    simp only
    rw [if_pos x.1]
    exact .okI x.2 (Rs.range _ _) kk
  · exact x.elim⟩
/-! dicts -/
def uVal {κ : Type} [DecidableEq κ] (ks : List κ) (us : List U) (k : κ) : Option U := match ks, us with
  | k1 :: ks, u :: us => if k1 = k then some u else uVal ks us k
  | _, _ => none
theorem uVal_d {κ : Type} [DecidableEq κ] {ok : Nat → Prop} {ah : AH} {k : κ} {u : U} : ∀ (ks : List κ) (us : List U) (kvs : List (κ × D)), kvs.map (·.1) = ks → Rs ok ah us (kvs.map (·.2)) → uVal ks us k = some u → ∃ d, valD kvs k = some d ∧ R ok ah u d
  | [], us, kvs, h, r, e => by unfold uVal at e; cases e
  | k1 :: ks, [], kvs, h, r, e => by unfold uVal at e; cases e
  | k1 :: ks, u1 :: us, [], h, r, e => by simp at h
  | k1 :: ks, u1 :: us, kv :: kvs, h, r, e => by
    simp only [List.map_cons, List.cons.injEq] at h
    simp only [List.map_cons, Rs, List.cons.injEq] at r
    obtain ⟨d, es, ⟨rfl, rfl⟩, q, r⟩ := r
    unfold uVal at e
    unfold valD
    rw [List.find?_cons]
    split at e
    · rename_i h1
      cases e
      have : decide (kv.1 = k) = true := by rw [h.1, h1]; simp
      rw [this]
      exact ⟨_, rfl, q⟩
    · rename_i h1
      have : decide (kv.1 = k) = false := by rw [h.1]; simpa using h1
      rw [this]
      exact uVal_d ks us kvs h.2 r e
def vGet : V2o U
  | .dK ks us, x, _, k => match uKey x with
    | some kk => match uVal ks us kk with
      | some u => k u
      | none => False
    | none => False
  | _, _, _, _ => False
theorem lo_get : LO2 K RU RU RU oGet vGet := ⟨fun {ok ah N X k a b a' b'} o q q' kk x => by
  change R ok ah a b at q
  change R ok ah a' b' at q'
  unfold vGet at x
  split at x
  · simp only [R] at q
    obtain ⟨n, kvs, rfl, _, h, z, r⟩ := q
    split at x
    · rename_i key hk
      split at x
      · rename_i u hu
        obtain ⟨d, h1, h2⟩ := uVal_d _ _ _ z r hu
        unfold oGet
        simp only [uKey_d q' hk, h, h1]
        exact .okI x h2 kk
      · exact x.elim
    · exact x.elim
  · exact x.elim⟩
end
end HV

/-! V4: what is walked, targets, comprehensions. -/
namespace HV
open PySem PySem.Spec PyProof.Rows L2 HA
section
variable {K : Dks} {α β γ δ α' β' γ' δ' : Type}
theorem PR.after {ok : Nat → Prop} {ah ah' : AH} {N : Nat} {Q : Rl α β} {X : ExK} {k : α → Prop} {r : Res β} (h : PR K ok ah' N Q X k r) (g : Grow ah ah') : PR K ok ah N Q X k r := by
  revert h
  unfold PR
  split
  · exact fun ⟨a, x1, x2, x3, x4⟩ => ⟨a, x1, x2, g.trans x3, x4⟩
  · exact fun ⟨a, x1, x2, x3, x4⟩ => ⟨a, x1, x2, g.trans x3, x4⟩
  · exact fun h => h
def RIt : Rl (List U) Itm := ⟨fun ok ah us t => Rs ok ah us t.items ∧ ∀ p, p ∈ t.guard → ok p.1 ∧ ah[p.1]? = some (.lst p.2), fun h1 h2 h => ⟨Rs.mono h1 h2 _ _ h.1, fun p hp => ⟨h1 _ (h.2 p hp).1, h2 _ _ (h.2 p hp).1 (h.2 p hp).2⟩⟩⟩
theorem okIn_of {t : Itm} {ah : AH} (h : ∀ p, p ∈ t.guard → ah[p.1]? = some (.lst p.2)) : t.okIn ah = true := by
  unfold Itm.okIn
  rw [List.all_eq_true]
  intro p hp
  unfold HA.listAt
  rw [h p hp]
  simp
theorem le_inew {c : Nat} {m : EM (List D)} {p : VE (List U)} (h : LE K RUs c m p) : LE K RIt (sq c 0) (iNew m) (v1 p vId) := le_1 h ⟨fun {ok ah N X k a b} o q kk l x => .okI x ⟨q, fun p hp => by cases hp⟩ kk⟩
theorem lo_ival : LO1 K RU RIt 0 iVal vSeqOf := ⟨fun {ok ah N X k a b} o q kk l x => by
  change R ok ah a b at q
  unfold vSeqOf at x
  split at x
  · simp only [R] at q
    obtain ⟨n, ds, rfl, on, h, r⟩ := q
    unfold iVal HA.listAt
    simp only [h]
    exact .okI x ⟨r, fun p hp => by simp only [List.mem_singleton] at hp; subst hp; exact ⟨on, h⟩⟩ kk
  · simp only [R] at q
    obtain ⟨ds, rfl, r⟩ := q
    exact .okI x ⟨r, fun p hp => by cases hp⟩ kk
  · exact x.elim⟩
def vIR (i j : Int) (k : List U → Prop) : Prop := (-(2 ^ 62) ≤ i ∧ i < 2 ^ 62 ∧ -(2 ^ 62) ≤ j ∧ j < 2 ^ 62) ∧ k ((List.range (j - i).toNat).map fun (n : Nat) => U.int (i + n))
def vIR1 : V1o (List U)
  | .int j, _, k => vIR 0 j k
  | _, _, _ => False
def vIR2 : V2o (List U)
  | .int i, .int j, _, k => vIR i j k
  | _, _, _, _ => False
theorem lo_irange1 : LO1 K RU RIt 0 iRange1 vIR1 := ⟨fun {ok ah N X k a b} o q kk l x => by
  change R ok ah a b at q
  unfold vIR1 vIR at x
  split at x
  · rename_i j
    simp only [R] at q; subst q
    unfold iRange1
    simp only
    rw [if_pos ⟨x.1.2.2.1, x.1.2.2.2⟩]
    refine .okI x.2 ⟨?_, fun p hp => by cases hp⟩ kk
    have := Rs.range (ok := ok) (ah := ah) 0 j.toNat
    simpa using this
  · exact x.elim⟩
theorem lo_irange2 : LO2 K RU RU RIt iRange2 vIR2 := ⟨fun {ok ah N X k a b a' b'} o q q' kk x => by
  change R ok ah a b at q
  change R ok ah a' b' at q'
  unfold vIR2 vIR at x
  split at x
  · simp only [R] at q q'; subst q; subst q'
    unfold iRange2
    simp only
    rw [if_pos x.1]
    exact .okI x.2 ⟨Rs.range _ _, fun p hp => by cases hp⟩ kk
  · exact x.elim⟩
/-! targets -/
abbrev VTM := U → Option (List (Nat × U))
def setU (Γ : UEnv) : List (Nat × U) → UEnv
  | [] => Γ
  | (i, u) :: r => setU (Γ.set i (some u)) r
def setD (env : HA.Env) : List (Nat × D) → HA.Env
  | [] => env
  | (i, u) :: r => setD (env.set i (some u)) r
def Rb (ok : Nat → Prop) (ah : AH) (bs : List (Nat × U)) (cs : List (Nat × D)) : Prop := bs.map (·.1) = cs.map (·.1) ∧ Rs ok ah (bs.map (·.2)) (cs.map (·.2))
theorem setD_app (env : HA.Env) : ∀ (xs ys : List (Nat × D)), setD env (xs ++ ys) = setD (setD env xs) ys
  | [], ys => rfl
  | x :: xs, ys => setD_app _ xs ys
theorem setD_len (env : HA.Env) : ∀ (xs : List (Nat × D)), (setD env xs).length = env.length
  | [] => rfl
  | x :: xs => by unfold setD; rw [setD_len _ xs, List.length_set]
theorem setU_len (env : UEnv) : ∀ (xs : List (Nat × U)), (setU env xs).length = env.length
  | [] => rfl
  | x :: xs => by unfold setU; rw [setU_len _ xs, List.length_set]
theorem setD_ne (env : HA.Env) {j : Nat} : ∀ (xs : List (Nat × D)), (∀ x ∈ xs, x.1 ≠ j) → (setD env xs)[j]? = env[j]?
  | [], _ => rfl
  | x :: xs, h => by unfold setD; rw [setD_ne _ xs fun y hy => h y (List.mem_cons_of_mem _ hy), List.getElem?_set_ne (h x List.mem_cons_self)]
theorem setU_ne (env : UEnv) {j : Nat} : ∀ (xs : List (Nat × U)), (∀ x ∈ xs, x.1 ≠ j) → (setU env xs)[j]? = env[j]?
  | [], _ => rfl
  | x :: xs, h => by unfold setU; rw [setU_ne _ xs fun y hy => h y (List.mem_cons_of_mem _ hy), List.getElem?_set_ne (h x List.mem_cons_self)]
theorem EnvR.set1 {ok : Nat → Prop} {ah : AH} {Γ : UEnv} {env : HA.Env} (h : EnvR ok ah Γ env) (i : Nat) {u : U} {d : D} (r : R ok ah u d) : EnvR ok ah (Γ.set i (some u)) (env.set i (some d)) :=
  ⟨by simp [h.len], fun j v e => by
    by_cases hj : i = j
    · subst hj
      have hl : i < Γ.length := by have := (List.getElem?_eq_some_iff.mp e).1; simpa using this
      rw [List.getElem?_set_self hl] at e
      cases e
      exact ⟨d, by rw [List.getElem?_set_self (by rw [h.len]; exact hl)], r⟩
    · rw [List.getElem?_set_ne hj] at e ⊢
      exact h.at' j v e⟩
theorem EnvR.sets {ok : Nat → Prop} {ah : AH} : ∀ {bs : List (Nat × U)} {cs : List (Nat × D)} {Γ : UEnv} {env : HA.Env}, EnvR ok ah Γ env → Rb ok ah bs cs → EnvR ok ah (setU Γ bs) (setD env cs)
  | [], [], _, _, h, _ => h
  | [], _ :: _, _, _, _, r => by have := r.1; simp at this
  | _ :: _, [], _, _, _, r => by have := r.1; simp at this
  | (i, u) :: bs, (j, d) :: cs, Γ, env, h, ⟨e, r⟩ => by
    simp only [List.map_cons, List.cons.injEq] at e
    obtain ⟨rfl, e⟩ := e
    simp only [List.map_cons, Rs, List.cons.injEq] at r
    obtain ⟨_, _, ⟨rfl, rfl⟩, q, r⟩ := r
    show EnvR ok ah (setU (Γ.set i (some u)) bs) (setD (env.set i (some _)) cs)
    exact EnvR.sets (h.set1 i q) ⟨e, r⟩
structure LTg (tm : TM) (vt : VTM) (ts : List Nat) : Prop where
  to : ∀ {ok : Nat → Prop} {ah : AH} {u : U} {d : D} {bs : List (Nat × U)} (env : HA.Env), R ok ah u d → vt u = some bs → ∃ cs, tm d env ah = some (setD env cs) ∧ Rb ok ah bs cs ∧ ∀ x ∈ bs, x.1 ∈ ts
structure LTs (tm : List D → HA.Env → AH → Option HA.Env) (vt : List U → Option (List (Nat × U))) (ts : List Nat) : Prop where
  to : ∀ {ok : Nat → Prop} {ah : AH} {us : List U} {ds : List D} {bs : List (Nat × U)} (env : HA.Env), Rs ok ah us ds → vt us = some bs → ∃ cs, tm ds env ah = some (setD env cs) ∧ Rb ok ah bs cs ∧ ∀ x ∈ bs, x.1 ∈ ts
def tSet (i : Nat) : VTM := fun u => some [(i, u)]
def tNil : List U → Option (List (Nat × U)) := fun us => match us with
  | [] => some []
  | _ => none
def tCons (t : VTM) (r : List U → Option (List (Nat × U))) : List U → Option (List (Nat × U)) := fun us => match us with
  | u :: us => (t u).bind fun a => (r us).map fun b => a ++ b
  | [] => none
def tTup (n : Nat) (r : List U → Option (List (Nat × U))) : VTM := fun u => match u with
  | .tup us => if us.length = n then r us else none
  | _ => none
theorem lt_set (i : Nat) : LTg (gSet i) (tSet i) [i] := ⟨fun {ok ah u d bs} env r e => by
  unfold tSet at e
  cases e
  exact ⟨[(i, d)], rfl, ⟨rfl, Rs.cons r Rs.nil⟩, by simp⟩⟩
theorem lt_nil : LTs gNilD tNil [] := ⟨fun {ok ah u d bs} env r e => by
  unfold tNil at e
  split at e
  · cases e
    simp only [Rs] at r
    subst r
    exact ⟨[], rfl, ⟨rfl, Rs.nil⟩, by simp⟩
  · cases e⟩
theorem lt_cons {tm : TM} {vt : VTM} {ts ts' : List Nat} {um : List D → HA.Env → AH → Option HA.Env} {vu : List U → Option (List (Nat × U))} (h : LTg tm vt ts) (h' : LTs um vu ts') : LTs (gConsD tm um) (tCons vt vu) (ts ++ ts') := ⟨fun {ok ah us ds bs} env r e => by
  unfold tCons at e
  split at e
  · rename_i u us
    rw [Option.bind_eq_some_iff] at e
    obtain ⟨a, e1, e⟩ := e
    rw [Option.map_eq_some_iff] at e
    obtain ⟨b, e2, rfl⟩ := e
    simp only [Rs] at r
    obtain ⟨d, es, rfl, q, r⟩ := r
    obtain ⟨cs, h1, h2, h3⟩ := h.to env q e1
    obtain ⟨cs', h1', h2', h3'⟩ := h'.to (setD env cs) r e2
    refine ⟨cs ++ cs', ?_, ⟨by rw [List.map_append, List.map_append, h2.1, h2'.1], by rw [List.map_append, List.map_append]; exact h2.2.app h2'.2⟩, fun x hx => ?_⟩
    · unfold gConsD
      simp only [h1, Option.bind_some, h1', setD_app]
    · rw [List.mem_append] at hx ⊢
      exact hx.imp (h3 x) (h3' x)
  · cases e⟩
theorem lt_tup {n : Nat} {ts : List Nat} {um : List D → HA.Env → AH → Option HA.Env} {vu : List U → Option (List (Nat × U))} (h : LTs um vu ts) : LTg (gTupD n um) (tTup n vu) ts := ⟨fun {ok ah u d bs} env r e => by
  unfold tTup at e
  split at e
  · split at e
    · rename_i us hl
      simp only [R] at r
      obtain ⟨ds, rfl, r⟩ := r
      obtain ⟨cs, h1, h2⟩ := h.to env r e
      refine ⟨cs, ?_, h2⟩
      unfold gTupD
      simp only
      rw [if_pos (by rw [← r.len]; exact hl), h1]
    · cases e
  · cases e⟩
/-! comprehensions -/
def wipeU (Γ : UEnv) : List Nat → UEnv
  | [] => Γ
  | v :: vs => (wipeU Γ vs).set v none
theorem EnvR.unset {ok : Nat → Prop} {ah : AH} {Γ : UEnv} {env : HA.Env} (h : EnvR ok ah Γ env) (i : Nat) (x : Option D) : EnvR ok ah (Γ.set i none) (env.set i x) :=
  ⟨by simp [h.len], fun j v e => by
    by_cases hj : i = j
    · subst hj
      have hl : i < Γ.length := by have := (List.getElem?_eq_some_iff.mp e).1; simpa using this
      rw [List.getElem?_set_self hl] at e
      cases e
    · rw [List.getElem?_set_ne hj] at e ⊢
      exact h.at' j v e⟩
theorem EnvR.wipe {ok : Nat → Prop} {ah : AH} {Γ : UEnv} {env : HA.Env} (h : EnvR ok ah Γ env) : ∀ vs : List Nat, EnvR ok ah (wipeU Γ vs) (wipeE env vs)
  | [] => h
  | v :: vs => (EnvR.wipe h vs).unset v none
def XF : ExK := fun _ _ => False
def vLcL (vt : VTM) (pt : VE Bool) (pe : VE U) (Γ : UEnv) : List U → (List U → Prop) → Prop
  | [], k => k []
  | u :: us, k => match vt u with
    | some bs => pt (setU Γ bs) XF fun t => if t = true then pe (setU Γ bs) XF fun y => vLcL vt pt pe Γ us fun ys => k (y :: ys) else vLcL vt pt pe Γ us k
    | none => False
def vLc (pi : VE (List U)) (vt : VTM) (pt : VE Bool) (pe : VE U) (vs : List Nat) : VE (List U) := fun Γ X k => pi Γ X fun us => us.length ≤ line ∧ vLcL vt pt pe (wipeU Γ vs) us k
theorem lcLoop_V {c c' : Nat} {t : Itm} {tm : TM} {vt : VTM} {ts : List Nat} {test : EM Bool} {elt : EM D} {pt : VE Bool} {pe : VE U} {vs : List Nat} {env : HA.Env} {Γ : UEnv} {ok : Nat → Prop} {X : ExK} (hT : LTg tm vt ts) (ht : LE K (REq Bool) c test pt) (he : LE K RU c' elt pe) :
    ∀ (us : List U) (ds : List D) (ua : List U) (acc : List D) (ah : AH) (N : Nat) (k : List U → Prop), OkF ok ah → EnvR ok ah Γ env → K.at' N ah → (∀ p, p ∈ t.guard → ok p.1 ∧ ah[p.1]? = some (.lst p.2)) → N + us.length * cb (sq c c') ≤ LIM → Rs ok ah us ds → Rs ok ah ua acc → acc.length + us.length ≤ line → (vLcL vt pt pe (wipeU Γ vs) us fun ys => k (ua ++ ys)) → PR K ok ah (N + us.length * cb (sq c c')) RUs X k (lcLoop t tm test elt vs env ds acc ah)
  | [], ds, ua, acc, ah, N, k, o, e, kk, hg, l, r, ra, hl, x => by
    simp only [Rs] at r
    subst r
    unfold lcLoop
    rw [if_pos (okIn_of fun p hp => (hg p hp).2)]
    unfold vLcL at x
    rw [List.append_nil] at x
    exact .okI x ra (by simpa using kk)
  | u :: us, ds, ua, acc, ah, N, k, o, e, kk, hg, l, r, ra, hl, x => by
    simp only [Rs] at r
    obtain ⟨d, ds, rfl, q, r⟩ := r
    have s := cb_sq c c'
    rw [List.length_cons, Nat.add_mul, Nat.one_mul] at l
    rw [List.length_cons] at hl
    unfold vLcL at x
    split at x
    · rename_i bs hb
      obtain ⟨cs, h1, h2, _⟩ := hT.to (wipeE env vs) q hb
      have e1 : EnvR ok ah (setU (wipeU Γ vs) bs) (setD (wipeE env vs) cs) := (e.wipe vs).sets h2
      unfold lcLoop
      rw [if_pos ⟨okIn_of fun p hp => (hg p hp).2, by omega⟩, h1]
      simp only
      have w := ht.to o e1 kk (by omega) x
      cases z : test (setD (wipeE env vs) cs) ah with
      | stuck => rw [z] at w; exact w.elim
      | exn a f h => rw [z] at w; obtain ⟨f, y, _⟩ := w; exact y.elim
      | ok b ah1 =>
        rw [z] at w
        obtain ⟨b', kb, rfl, g, k1⟩ := w
        have o1 := o.grow g
        have hg1 : ∀ p, p ∈ t.guard → ok p.1 ∧ ah1[p.1]? = some (.lst p.2) := fun p hp => ⟨(hg p hp).1, g.sta o _ _ (hg p hp).1 (hg p hp).2⟩
        cases b' with
        | true =>
          simp only [if_true] at kb ⊢
          have w := he.to o1 (e1.grow o g) k1 (by omega) kb
          cases z : elt (setD (wipeE env vs) cs) ah1 with
          | stuck => rw [z] at w; exact w.elim
          | exn a f h => rw [z] at w; obtain ⟨f, y, _⟩ := w; exact y.elim
          | ok y ah2 =>
            rw [z] at w
            obtain ⟨y', ky, qy, g2, k2⟩ := w
            have gg := g.trans g2
            have := lcLoop_V (X := X) hT ht he us ds (ua ++ [y']) (acc ++ [y]) ah2 (N + cb c + cb c') k (o1.grow g2) (e.grow o gg) k2 (fun p hp => ⟨(hg p hp).1, gg.sta o _ _ (hg p hp).1 (hg p hp).2⟩) (by omega) (r.grow o gg) ((ra.grow o gg).app (Rs.cons qy Rs.nil)) (by rw [List.length_append, List.length_singleton]; omega) (by simpa [List.append_assoc] using ky)
            simp only
            exact PR.le (M := N + (us.length + 1) * cb (sq c c')) (by
              exact this.after gg) (by rw [Nat.add_mul, Nat.one_mul]; omega)
        | false =>
          simp only [Bool.false_eq_true, if_false] at kb ⊢
          have := lcLoop_V (X := X) hT ht he us ds ua acc ah1 (N + cb c) k o1 (e.grow o g) k1 hg1 (by omega) (r.grow o g) (ra.grow o g) (by omega) kb
          exact PR.le (M := N + (us.length + 1) * cb (sq c c')) (by
              exact this.after g) (by rw [Nat.add_mul, Nat.one_mul]; omega)
    · exact x.elim
theorem le_lc {ci c c' : Nat} {mi : EM Itm} {pi : VE (List U)} {tm : TM} {vt : VTM} {ts : List Nat} {test : EM Bool} {elt : EM D} {pt : VE Bool} {pe : VE U} {vs : List Nat} (hi : LE K RIt ci mi pi) (hT : LTg tm vt ts) (ht : LE K (REq Bool) c test pt) (he : LE K RU c' elt pe) : LE K RUs (sq ci (lp (sq c c'))) (lLc mi tm test elt vs) (vLc pi vt pt pe vs) := ⟨fun {ok Γ env ah N X k} o e kk l x => by
  have s := cb_sq ci (lp (sq c c'))
  refine PR.bind (hi.to o e kk (by omega) x) (by omega) fun us t ah1 ⟨hl, ka⟩ ⟨q, hg⟩ g k1 => ?_
  have b := cb_lp (sq c c') us.length hl
  refine (lcLoop_V hT ht he us t.items [] [] ah1 (N + cb ci) k (o.grow g) (e.grow o g) k1 hg (by omega) q Rs.nil (by simpa using hl) (by simpa using ka)).le (by omega)⟩
end
end HV

/-! V5: statements of the by-value layer, with lists that one variable alone holds. -/
namespace HV
open PySem PySem.Spec PyProof.Rows L2 HA
structure SK where
  nx : UEnv → Prop
  rt : U → Prop
  bk : UEnv → Prop
  ct : UEnv → Prop
  ex : Addr → EF → UEnv → Prop
abbrev VS := UEnv → SK → Prop
def av (ok : Nat → Prop) (env : HA.Env) (own : List Nat) : Nat → Prop := fun n => ok n ∧ ∀ i, i ∈ own → env[i]? ≠ some (some (.ref n))
structure OkB (ok : Nat → Prop) (b : Nat) : Prop where
  three : ∀ n, ok n → 3 ≤ n
  fresh : ∀ n, b ≤ n → ok n
structure StR (ok : Nat → Prop) (b : Nat) (own : List Nat) (Γ : UEnv) (env : HA.Env) (ah : AH) : Prop where
  len : env.length = Γ.length
  bl : b ≤ ah.length
  sh : ∀ (i : Nat) (u : U), i ∉ own → Γ[i]? = some (some u) → ∃ d, env[i]? = some (some d) ∧ R (av ok env own) ah u d
  ow : ∀ i, i ∈ own → ∃ n o u, env[i]? = some (some (.ref n)) ∧ b ≤ n ∧ ah[n]? = some o ∧ Γ[i]? = some (some u) ∧ OR (av ok env own) ah u o
  inj : ∀ (i j n : Nat), i ∈ own → j ∈ own → env[i]? = some (some (.ref n)) → env[j]? = some (some (.ref n)) → i = j
structure PreS (b : Nat) (own : List Nat) (env : HA.Env) (ah : AH) (own' : List Nat) (env' : HA.Env) (ah' : AH) : Prop where
  len : ah.length ≤ ah'.length
  same : ∀ n, 3 ≤ n → n < ah.length → (∀ i, i ∈ own → env[i]? ≠ some (some (.ref n))) → ah'[n]? = ah[n]?
  old : ∀ n, 3 ≤ n → n < b → ah'[n]? = ah[n]?
  refs : ∀ i n, i ∈ own' → env'[i]? = some (some (.ref n)) → n < ah.length → ∃ j, j ∈ own ∧ env[j]? = some (some (.ref n))
structure GrowB (b : Nat) (ah ah' : AH) : Prop where
  len : ah.length ≤ ah'.length
  old : ∀ n, 3 ≤ n → n < b → ah'[n]? = ah[n]?
section
variable {ok : Nat → Prop} {b : Nat} {own own' own1 : List Nat} {Γ : UEnv} {env env' env1 : HA.Env} {ah ah' ah1 : AH}
theorem PreS.trans (h : PreS b own env ah own1 env1 ah1) (k : PreS b own1 env1 ah1 own' env' ah') : PreS b own env ah own' env' ah' :=
  ⟨Nat.le_trans h.len k.len, fun n h3 hn hne => by
    rw [k.same n h3 (Nat.lt_of_lt_of_le hn h.len) fun i hi e => ?_, h.same n h3 hn hne]
    obtain ⟨j, hj, ej⟩ := h.refs i n hi e hn
    exact hne j hj ej, fun n h3 hn => (k.old n h3 hn).trans (h.old n h3 hn), fun i n hi e hn => by
    obtain ⟨j, hj, ej⟩ := k.refs i n hi e (Nat.lt_of_lt_of_le hn h.len)
    exact h.refs j n hj ej hn⟩
theorem PreS.growB (h : PreS b own env ah own' env' ah') : GrowB b ah ah' := ⟨h.len, h.old⟩
theorem PreS.ofGrow (g : Grow ah ah') (hb : b ≤ ah.length) (hs : own' ⊆ own) : PreS b own env ah own' env ah' :=
  ⟨g.len, fun n h3 hn _ => g.same n h3 hn, fun n h3 hn => g.same n h3 (by omega), fun i n hi e _ => ⟨i, hs hi, e⟩⟩
theorem GrowB.trans {a c d : AH} (h : GrowB b a c) (k : GrowB b c d) : GrowB b a d := ⟨Nat.le_trans h.len k.len, fun n h3 hn => (k.old n h3 hn).trans (h.old n h3 hn)⟩
theorem StR.okf (S : StR ok b own Γ env ah) (o : OkB ok b) : OkF ok ah := ⟨o.three, fun n hn => o.fresh n (Nat.le_trans S.bl hn)⟩
theorem StR.okav (S : StR ok b own Γ env ah) (o : OkB ok b) : OkF (av ok env own) ah := ⟨fun n h => o.three n h.1, fun n hn => ⟨o.fresh n (Nat.le_trans S.bl hn), fun i hi e => by
  obtain ⟨m, ob, u, e1, _, e2, _⟩ := S.ow i hi
  rw [e1] at e
  cases e
  have := (List.getElem?_eq_some_iff.mp e2).1
  omega⟩⟩
theorem av_ok {n : Nat} (h : av ok env own n) : ok n := h.1
theorem Sta.refl {ok : Nat → Prop} {ah : AH} : Sta ok ah ah := fun _ _ _ h => h
mutual
theorem R.inb {ok : Nat → Prop} {ah : AH} : ∀ (u : U) (d : D), R ok ah u d → R (fun m => ok m ∧ m < ah.length) ah u d
  | .non, _, h => by simp only [R] at h ⊢; exact h
  | .bl b, _, h => by simp only [R] at h ⊢; exact h
  | .int b, _, h => by simp only [R] at h ⊢; exact h
  | .str b, _, h => by simp only [R] at h ⊢; exact h
  | .cst b, _, h => by simp only [R] at h ⊢; exact h
  | .ref b, _, h => by simp only [R] at h ⊢; exact h
  | .tup us, _, h => by simp only [R] at h ⊢; obtain ⟨ds, e, r⟩ := h; exact ⟨ds, e, Rs.inb us ds r⟩
  | .lst us, _, h => by simp only [R] at h ⊢; obtain ⟨n, ds, e, o, q, r⟩ := h; exact ⟨n, ds, e, ⟨o, (List.getElem?_eq_some_iff.mp q).1⟩, q, Rs.inb us ds r⟩
  | .dK ks us, _, h => by simp only [R] at h ⊢; obtain ⟨n, ds, e, o, q, z, r⟩ := h; exact ⟨n, ds, e, ⟨o, (List.getElem?_eq_some_iff.mp q).1⟩, q, z, Rs.inb us _ r⟩
  | .dT ks us, _, h => by simp only [R] at h ⊢; obtain ⟨n, ds, e, o, q, z, r⟩ := h; exact ⟨n, ds, e, ⟨o, (List.getElem?_eq_some_iff.mp q).1⟩, q, z, Rs.inb us _ r⟩
  | .ins C ks us, _, h => by simp only [R] at h ⊢; obtain ⟨n, ds, e, o, q, z, r⟩ := h; exact ⟨n, ds, e, ⟨o, (List.getElem?_eq_some_iff.mp q).1⟩, q, z, Rs.inb us _ r⟩
theorem Rs.inb {ok : Nat → Prop} {ah : AH} : ∀ (us : List U) (ds : List D), Rs ok ah us ds → Rs (fun m => ok m ∧ m < ah.length) ah us ds
  | [], _, h => by simp only [Rs] at h ⊢; exact h
  | u :: us, _, h => by simp only [Rs] at h ⊢; obtain ⟨d, es, e, q, r⟩ := h; exact ⟨d, es, e, R.inb u d q, Rs.inb us es r⟩
end
theorem OR.inb {ok : Nat → Prop} {ah : AH} {u : U} {o : AObj} (h : OR ok ah u o) : OR (fun m => ok m ∧ m < ah.length) ah u o := by
  unfold OR at h ⊢
  split at h
  · exact Rs.inb _ _ h
  · exact ⟨h.1, Rs.inb _ _ h.2⟩
  · exact ⟨h.1, Rs.inb _ _ h.2⟩
  · exact ⟨h.1, h.2.1, Rs.inb _ _ h.2.2⟩
  · exact h
def eraseU : List Nat → UEnv → UEnv
  | [], Γ => Γ
  | i :: r, Γ => eraseU r (Γ.set i none)
theorem eraseU_len : ∀ (own : List Nat) (Γ : UEnv), (eraseU own Γ).length = Γ.length
  | [], _ => rfl
  | i :: r, Γ => by unfold eraseU; rw [eraseU_len r, List.length_set]
theorem eraseU_some : ∀ (own : List Nat) (Γ : UEnv) (j : Nat) (u : U), (eraseU own Γ)[j]? = some (some u) → j ∉ own ∧ Γ[j]? = some (some u)
  | [], _, j, u, h => ⟨by simp, h⟩
  | i :: r, Γ, j, u, h => by
    unfold eraseU at h
    obtain ⟨h1, h2⟩ := eraseU_some r _ j u h
    by_cases hj : i = j
    · subst hj
      have hl : i < Γ.length := by have := (List.getElem?_eq_some_iff.mp h2).1; simpa using this
      rw [List.getElem?_set_self hl] at h2
      cases h2
    · rw [List.getElem?_set_ne hj] at h2
      exact ⟨by simp only [List.mem_cons, not_or]; exact ⟨fun e => hj e.symm, h1⟩, h2⟩
theorem StR.toEnv (S : StR ok b own Γ env ah) (o : OkB ok b) : EnvR ok ah Γ env := ⟨S.len, fun i u e => by
  by_cases hi : i ∈ own
  · obtain ⟨n, ob, v, e1, e2, e3, e4, e5⟩ := S.ow i hi
    rw [e] at e4
    cases e4
    exact ⟨_, e1, (e5.mono (fun _ h => h.1) Sta.refl).to (o.fresh n e2) e3⟩
  · obtain ⟨d, e1, r⟩ := S.sh i u hi e
    exact ⟨d, e1, R.mono (fun _ h => h.1) Sta.refl _ _ r⟩⟩
theorem StR.clean (S : StR ok b own Γ env ah) : EnvR (av ok env own) ah (eraseU own Γ) env := ⟨by rw [eraseU_len, S.len], fun i u e => by
  obtain ⟨h1, h2⟩ := eraseU_some own Γ i u e
  exact S.sh i u h1 h2⟩
theorem StR.grow (S : StR ok b own Γ env ah) (o : OkB ok b) (g : Grow ah ah') : StR ok b own Γ env ah' :=
  have s := g.sta (S.okav o)
  ⟨S.len, Nat.le_trans S.bl g.len, fun i u hi e => let ⟨d, e1, r⟩ := S.sh i u hi e; ⟨d, e1, R.mono (fun _ h => h) s _ _ r⟩, fun i hi => by
    obtain ⟨n, ob, v, e1, e2, e3, e4, e5⟩ := S.ow i hi
    have hn := (List.getElem?_eq_some_iff.mp e3).1
    exact ⟨n, ob, v, e1, e2, by rw [g.same n (o.three n (o.fresh n e2)) hn]; exact e3, e4, e5.mono (fun _ h => h) s⟩, S.inj⟩
theorem av_mono (h : ∀ i, i ∈ own' → i ∈ own) {n : Nat} (a : av ok env own n) : av ok env own' n := ⟨a.1, fun i hi => a.2 i (h i hi)⟩
/-- what isn't held alone any more -/
theorem StR.drop (S : StR ok b own Γ env ah) (o : OkB ok b) (h : own' ⊆ own) : StR ok b own' Γ env ah :=
  ⟨S.len, S.bl, fun i u hi e => by
    by_cases hi' : i ∈ own
    · obtain ⟨n, ob, v, e1, e2, e3, e4, e5⟩ := S.ow i hi'
      rw [e] at e4
      cases e4
      refine ⟨_, e1, (e5.mono (fun n a => av_mono (fun i hi => h hi) a) Sta.refl).to ⟨o.fresh n e2, fun j hj ej => ?_⟩ e3⟩
      exact hi (S.inj i j n hi' (h hj) e1 ej ▸ hj)
    · obtain ⟨d, e1, r⟩ := S.sh i u hi' e
      exact ⟨d, e1, R.mono (fun n a => av_mono (fun i hi => h hi) a) Sta.refl _ _ r⟩, fun i hi => by
    obtain ⟨n, ob, v, e1, e2, e3, e4, e5⟩ := S.ow i (h hi)
    exact ⟨n, ob, v, e1, e2, e3, e4, e5.mono (fun n a => av_mono (fun i hi => h hi) a) Sta.refl⟩, fun i j n hi hj => S.inj i j n (h hi) (h hj)⟩
theorem av_env (h : ∀ i, i ∈ own → env'[i]? = env[i]?) {n : Nat} (a : av ok env own n) : av ok env' own n := ⟨a.1, fun i hi => by rw [h i hi]; exact a.2 i hi⟩
theorem StR.sets {bs : List (Nat × U)} {cs : List (Nat × D)} (S : StR ok b own Γ env ah) (r : Rb (av ok env own) ah bs cs) (hn : ∀ x ∈ bs, x.1 ∉ own) : StR ok b own (setU Γ bs) (setD env cs) ah := by
  have hc : ∀ x ∈ cs, x.1 ∉ own := fun x hx => by
    have : x.1 ∈ bs.map (·.1) := by rw [r.1]; exact List.mem_map_of_mem hx
    obtain ⟨y, hy, e⟩ := List.mem_map.mp this
    rw [← e]; exact hn y hy
  have sameD : ∀ i, i ∈ own → (setD env cs)[i]? = env[i]? := fun i hi => setD_ne env cs fun x hx e => hc x hx (e ▸ hi)
  have sameU : ∀ i, i ∈ own → (setU Γ bs)[i]? = Γ[i]? := fun i hi => setU_ne Γ bs fun x hx e => hn x hx (e ▸ hi)
  have e1 : EnvR (av ok env own) ah (eraseU own Γ) env := S.clean
  have up : ∀ n, av ok env own n → av ok (setD env cs) own n := fun n a => av_env sameD a
  refine ⟨by rw [setD_len, setU_len, S.len], S.bl, fun i u hi e => ?_, fun i hi => ?_, fun i j n hi hj h1 h2 => ?_⟩
  · -- a shared one, set or not
    have key : ∀ (bs : List (Nat × U)) (cs : List (Nat × D)) (Γ : UEnv) (env' : HA.Env), Rb (av ok env own) ah bs cs → env'.length = Γ.length → (∀ i u, i ∉ own → Γ[i]? = some (some u) → ∃ d, env'[i]? = some (some d) ∧ R (av ok env own) ah u d) → ∀ i u, i ∉ own → (setU Γ bs)[i]? = some (some u) → ∃ d, (setD env' cs)[i]? = some (some d) ∧ R (av ok env own) ah u d := by
      intro bs
      induction bs with
      | nil =>
        intro cs Γ env' r hl h i u hi e
        cases cs with
        | nil => exact h i u hi e
        | cons c cs => have := r.1; simp at this
      | cons x bs ih =>
        intro cs Γ env' r hl h i u hi e
        cases cs with
        | nil => have := r.1; simp at this
        | cons c cs =>
          obtain ⟨j, v⟩ := x
          obtain ⟨j', d⟩ := c
          have r1 := r.1
          have r2 := r.2
          simp only [List.map_cons, List.cons.injEq] at r1
          simp only [List.map_cons, Rs, List.cons.injEq] at r2
          obtain ⟨rfl, r1⟩ := r1
          obtain ⟨_, _, ⟨rfl, rfl⟩, q, r2⟩ := r2
          refine ih cs (Γ.set j (some v)) (env'.set j (some d)) ⟨r1, r2⟩ (by simp [hl]) (fun i u hi e => ?_) i u hi e
          by_cases hj : j = i
          · subst hj
            have hlt : j < Γ.length := by have := (List.getElem?_eq_some_iff.mp e).1; simpa using this
            rw [List.getElem?_set_self hlt] at e
            cases e
            exact ⟨d, by rw [List.getElem?_set_self (by rw [hl]; exact hlt)], q⟩
          · rw [List.getElem?_set_ne hj] at e ⊢
            exact h i u hi e
    obtain ⟨d, h1, h2⟩ := key bs cs Γ env r S.len S.sh i u hi e
    exact ⟨d, h1, R.mono up Sta.refl _ _ h2⟩
  · obtain ⟨n, ob, v, e1, e2, e3, e4, e5⟩ := S.ow i hi
    exact ⟨n, ob, v, by rw [sameD i hi]; exact e1, e2, e3, by rw [sameU i hi]; exact e4, e5.mono up Sta.refl⟩
  · rw [sameD i hi] at h1
    rw [sameD j hj] at h2
    exact S.inj i j n hi hj h1 h2
theorem StR.new {i n : Nat} {u : U} {o : AObj} (S : StR ok b own Γ env ah) (O : OkB ok b) (g : Grow ah ah') (hn : ah.length ≤ n) (e : ah'[n]? = some o) (r : OR (fun m => av ok env own m ∧ m ≠ n) ah' u o) (hi : i < env.length) (hs : own' ⊆ i :: own) : StR ok b own' (Γ.set i (some u)) (env.set i (some (.ref n))) ah' := by
  have S' := S.grow O g
  have fresh : ∀ j, j ∈ own → env[j]? ≠ some (some (.ref n)) := fun j hj e => by
    obtain ⟨m, ob, v, e1, e2, e3, e4, e5⟩ := S.ow j hj
    rw [e1] at e
    cases e
    have := (List.getElem?_eq_some_iff.mp e3).1
    omega
  have atI : (env.set i (some (D.ref n)))[i]? = some (some (.ref n)) := List.getElem?_set_self hi
  have ne : ∀ j, i ≠ j → (env.set i (some (D.ref n)))[j]? = env[j]? := fun j h => List.getElem?_set_ne h
  -- what avoids all old ones and the new one avoids the new set
  have up : ∀ m, (av ok env own m ∧ m ≠ n) → av ok (env.set i (some (.ref n))) own' m := fun m a => ⟨a.1.1, fun j hj e => by
    by_cases h : i = j
    · subst h; rw [atI] at e; cases e; exact a.2 rfl
    · rw [ne j h] at e
      rcases List.mem_cons.mp (hs hj) with h' | h'
      · exact h h'.symm
      · exact a.1.2 j h' e⟩
  -- old shared values do not hold the new one
  have stay : Sta (av ok env own) ah ah' := g.sta (S.okav O)
  have upR : ∀ (u : U) (d : D), R (av ok env own) ah u d → R (av ok (env.set i (some (.ref n))) own') ah' u d := fun u d h => by
    have h2 : R (fun m => av ok env own m ∧ m < ah.length) ah u d := R.inb u d h
    exact R.mono (fun m a => up m ⟨a.1, by have := a.2; omega⟩) (fun m o a e => stay m o a.1 e) u d h2
  refine ⟨by simp [S.len], Nat.le_trans S.bl g.len, fun j v hj ej => ?_, fun j hj => ?_, fun j k m hj hk e1 e2 => ?_⟩
  · by_cases h : i = j
    · subst h
      have hl : i < Γ.length := by rw [← S.len]; exact hi
      rw [List.getElem?_set_self hl] at ej
      cases ej
      refine ⟨_, atI, (r.mono (fun m a => up m a) Sta.refl).to ⟨O.fresh n (Nat.le_trans S.bl hn), fun k hk ek => ?_⟩ e⟩
      by_cases h' : i = k
      · subst h'; exact hj hk
      · rw [ne k h'] at ek
        rcases List.mem_cons.mp (hs hk) with z | z
        · exact h' z.symm
        · exact fresh k z ek
    · rw [List.getElem?_set_ne h] at ej
      by_cases hjo : j ∈ own
      · obtain ⟨m, ob, v', e1, e2, e3, e4, e5⟩ := S.ow j hjo
        rw [ej] at e4
        cases e4
        have hm := (List.getElem?_eq_some_iff.mp e3).1
        refine ⟨_, by rw [ne j h]; exact e1, ?_⟩
        have e3' : ah'[m]? = some ob := by rw [g.same m (O.three m (O.fresh m e2)) hm]; exact e3
        have e5' := OR.inb e5
        refine (e5'.mono (ok' := av ok (env.set i (some (.ref n))) own') (fun m a => up m ⟨a.1, by have := a.2; omega⟩) (fun m o a e => stay m o a.1 e)).to ⟨O.fresh m e2, fun k hk ek => ?_⟩ e3'
        by_cases h' : i = k
        · subst h'; rw [atI] at ek; cases ek; omega
        · rw [ne k h'] at ek
          rcases List.mem_cons.mp (hs hk) with z | z
          · exact h' z.symm
          · exact hj (S.inj j k m hjo z e1 ek ▸ hk)
      · obtain ⟨d, e1, q⟩ := S.sh j v hjo ej
        exact ⟨d, by rw [ne j h]; exact e1, upR v d q⟩
  · by_cases h : i = j
    · subst h
      have hl : i < Γ.length := by rw [← S.len]; exact hi
      exact ⟨n, o, u, atI, Nat.le_trans S.bl hn, e, List.getElem?_set_self hl, r.mono (fun m a => up m a) Sta.refl⟩
    · have hjo : j ∈ own := by
        rcases List.mem_cons.mp (hs hj) with z | z
        · exact absurd z.symm h
        · exact z
      obtain ⟨m, ob, v', e1, e2, e3, e4, e5⟩ := S.ow j hjo
      have hm := (List.getElem?_eq_some_iff.mp e3).1
      refine ⟨m, ob, v', by rw [ne j h]; exact e1, e2, by rw [g.same m (O.three m (O.fresh m e2)) hm]; exact e3, by rw [List.getElem?_set_ne h]; exact e4, ?_⟩
      exact (OR.inb e5).mono (fun m a => up m ⟨a.1, by have := a.2; omega⟩) (fun m o a e => stay m o a.1 e)
  · have low : ∀ k, k ∈ own' → i ≠ k → ∀ m, env[k]? = some (some (.ref m)) → m < ah.length := fun k hk hne m e => by
      rcases List.mem_cons.mp (hs hk) with z | z
      · exact absurd z.symm hne
      · obtain ⟨m', ob, v', e1, e2, e3, e4, e5⟩ := S.ow k z
        rw [e1] at e
        cases e
        exact (List.getElem?_eq_some_iff.mp e3).1
    by_cases h1 : i = j
    · by_cases h2 : i = k
      · rw [← h1, ← h2]
      · subst h1
        rw [atI] at e1
        cases e1
        rw [ne k h2] at e2
        have := low k hk h2 n e2
        omega
    · by_cases h2 : i = k
      · subst h2
        rw [atI] at e2
        cases e2
        rw [ne j h1] at e1
        have := low j hj h1 n e1
        omega
      · rw [ne j h1] at e1
        rw [ne k h2] at e2
        have m1 : j ∈ own := by
          rcases List.mem_cons.mp (hs hj) with z | z
          · exact absurd z.symm h1
          · exact z
        have m2 : k ∈ own := by
          rcases List.mem_cons.mp (hs hk) with z | z
          · exact absurd z.symm h2
          · exact z
        exact S.inj j k m m1 m2 e1 e2
end
end HV

/-! V6: judgements of statements. -/
namespace HV
open PySem PySem.Spec PyProof.Rows L2 HA
section
variable {ok : Nat → Prop} {b : Nat} {own own' own1 : List Nat} {Γ : UEnv} {env env' env1 : HA.Env} {ah ah' ah1 : AH}
theorem StR.mut {i n : Nat} {u : U} {o : AObj} (S : StR ok b own Γ env ah) (O : OkB ok b) (hi : i ∈ own) (e : env[i]? = some (some (.ref n))) (r : OR (av ok env own) ah u o) : StR ok b own (Γ.set i (some u)) env (ah.set n o) ∧ PreS b own env ah own env (ah.set n o) := by
  obtain ⟨m, ob, v, e1, e2, e3, e4, e5⟩ := S.ow i hi
  rw [e] at e1
  cases e1
  have hl := (List.getElem?_eq_some_iff.mp e3).1
  have hiΓ := (List.getElem?_eq_some_iff.mp e4).1
  have stay : Sta (av ok env own) ah (ah.set n o) := fun k ob a ek => by
    rw [List.getElem?_set_ne (fun z => a.2 i hi (by rw [← z]; exact e))]; exact ek
  refine ⟨⟨by simp [S.len], by rw [List.length_set]; exact S.bl, fun j w hj ej => ?_, fun j hj => ?_, S.inj⟩, ⟨by simp, fun k h3 hk hne => List.getElem?_set_ne (fun z => hne i hi (by rw [← z]; exact e)), fun k h3 hk => List.getElem?_set_ne (by omega), fun j k hj ej _ => ⟨j, hj, ej⟩⟩⟩
  · have hij : i ≠ j := fun z => hj (z ▸ hi)
    rw [List.getElem?_set_ne hij] at ej
    obtain ⟨d, d1, d2⟩ := S.sh j w hj ej
    exact ⟨d, d1, R.mono (fun _ h => h) stay _ _ d2⟩
  · by_cases hij : i = j
    · subst hij
      exact ⟨n, o, u, e, e2, by rw [List.getElem?_set_self hl], List.getElem?_set_self hiΓ, r.mono (fun _ h => h) stay⟩
    · obtain ⟨m, ob', v', f1, f2, f3, f4, f5⟩ := S.ow j hj
      exact ⟨m, ob', v', f1, f2, by rw [List.getElem?_set_ne (fun z => hij (S.inj i j n hi hj e (by rw [z]; exact f1)))]; exact f3, by rw [List.getElem?_set_ne hij]; exact f4, f5.mono (fun _ h => h) stay⟩
end
theorem Dks.set {K : Dks} {N n : Nat} {ah : AH} {o : AObj} (h : K.at' N ah) (h3 : 3 ≤ n) : K.at' N (ah.set n o) := K.stay h (by rw [List.length_set]; exact K.len h) fun m hm => List.getElem?_set_ne (by omega)
def eok (E : Option (List Nat)) (own : List Nat) : Bool := match E with
  | none => true
  | some ow => ow.all fun i => own.contains i
theorem eok_sub {ow own : List Nat} (h : eok (some ow) own = true) : ow ⊆ own := fun i hi => by
  unfold eok at h
  rw [List.all_eq_true] at h
  simpa using h i hi
def sub (a b : List Nat) : Bool := a.all fun i => b.contains i
theorem sub_sub {a b : List Nat} (h : sub a b = true) : a ⊆ b := fun i hi => by
  unfold sub at h
  rw [List.all_eq_true] at h
  simpa using h i hi
def dis (a b : List Nat) : Bool := a.all fun i => !b.contains i
theorem dis_not {a b : List Nat} (h : dis a b = true) {i : Nat} (hi : i ∈ a) : i ∉ b := by
  unfold dis at h
  rw [List.all_eq_true] at h
  simpa using h i hi
/-- what is told back: new, if asked -/
def RetR (F : Bool) (ok : Nat → Prop) (b : Nat) (ah : AH) (u : U) (d : D) : Prop := match F with
  | true => ∃ n o, d = .ref n ∧ b ≤ n ∧ ah[n]? = some o ∧ OR (fun m => ok m ∧ m ≠ n) ah u o
  | false => R ok ah u d
section
variable (K : Dks) (F : Bool) (L : List Nat) (E : Option (List Nat))
def PSR (ok : Nat → Prop) (b : Nat) (own : List Nat) (env : HA.Env) (ah : AH) (own' : List Nat) (N : Nat) (S : SK) : SRes → Prop
  | .nx env' ah' => ∃ Γ', S.nx Γ' ∧ StR ok b own' Γ' env' ah' ∧ PreS b own env ah own' env' ah' ∧ K.at' N ah'
  | .rt d ah' => ∃ u, S.rt u ∧ RetR F ok b ah' u d ∧ GrowB b ah ah' ∧ K.at' N ah'
  | .bk env' ah' => ∃ Γ', S.bk Γ' ∧ StR ok b L Γ' env' ah' ∧ PreS b own env ah L env' ah' ∧ K.at' N ah'
  | .ct env' ah' => ∃ Γ', S.ct Γ' ∧ StR ok b L Γ' env' ah' ∧ PreS b own env ah L env' ah' ∧ K.at' N ah'
  | .exn c fs env' ah' => ∃ f Γ', S.ex c f Γ' ∧ RX ok ah' f fs ∧ (∀ ow, E = some ow → StR ok b ow Γ' env' ah' ∧ PreS b own env ah ow env' ah') ∧ GrowB b ah ah' ∧ K.at' N ah'
  | .stuck => False
structure LS (c : Nat) (own own' : List Nat) (m : SM) (p : VS) : Prop where
  to : ∀ {ok : Nat → Prop} {b : Nat} {Γ : UEnv} {env : HA.Env} {ah : AH} {N : Nat} {S : SK}, OkB ok b → StR ok b own Γ env ah → K.at' N ah → N + cb c ≤ LIM → p Γ S → PSR K F L E ok b own env ah own' (N + cb c) S (m env ah)
end
section
variable {K : Dks} {F : Bool} {L : List Nat} {E : Option (List Nat)} {own own' own1 own2 : List Nat}
theorem PSR.le {ok : Nat → Prop} {b : Nat} {env : HA.Env} {ah : AH} {N M : Nat} {S : SK} {r : SRes} (h : PSR K F L E ok b own env ah own' N S r) (hM : N ≤ M) : PSR K F L E ok b own env ah own' M S r := by
  revert h
  unfold PSR
  split
  · exact fun ⟨a, h1, h2, h3, h4⟩ => ⟨a, h1, h2, h3, K.mono h4 hM⟩
  · exact fun ⟨a, h1, h2, h3, h4⟩ => ⟨a, h1, h2, h3, K.mono h4 hM⟩
  · exact fun ⟨a, h1, h2, h3, h4⟩ => ⟨a, h1, h2, h3, K.mono h4 hM⟩
  · exact fun ⟨a, h1, h2, h3, h4⟩ => ⟨a, h1, h2, h3, K.mono h4 hM⟩
  · exact fun ⟨a, g, h1, h2, h3, h4, h5⟩ => ⟨a, g, h1, h2, h3, h4, K.mono h5 hM⟩
  · exact fun h => h
theorem PSR.after {ok : Nat → Prop} {b : Nat} {env env1 : HA.Env} {ah ah1 : AH} {N : Nat} {S : SK} {r : SRes} (h : PSR K F L E ok b own1 env1 ah1 own' N S r) (p : PreS b own env ah own1 env1 ah1) : PSR K F L E ok b own env ah own' N S r := by
  revert h
  unfold PSR
  split
  · exact fun ⟨a, h1, h2, h3, h4⟩ => ⟨a, h1, h2, p.trans h3, h4⟩
  · exact fun ⟨a, h1, h2, h3, h4⟩ => ⟨a, h1, h2, p.growB.trans h3, h4⟩
  · exact fun ⟨a, h1, h2, h3, h4⟩ => ⟨a, h1, h2, p.trans h3, h4⟩
  · exact fun ⟨a, h1, h2, h3, h4⟩ => ⟨a, h1, h2, p.trans h3, h4⟩
  · exact fun ⟨a, g, h1, h2, h3, h4, h5⟩ => ⟨a, g, h1, h2, fun ow ho => ⟨(h3 ow ho).1, p.trans (h3 ow ho).2⟩, p.growB.trans h4, h5⟩
  · exact fun h => h
/-- an expression within a statement -/
theorem PSR.expr {α β : Type} {Q : Rl α β} {ok ok' : Nat → Prop} {b : Nat} {Γ : UEnv} {env : HA.Env} {ah : AH} {N M : Nat} {S : SK} {k : α → Prop} {r : Res β} {f : β → AH → SRes} (O : OkB ok b) (st : StR ok b own Γ env ah) (hE : eok E own = true) (hok : ∀ n, ok' n → ok n)
    (h : PR K ok' ah N Q (fun a f => S.ex a f Γ) k r) (hN : N ≤ M) (hf : ∀ a x ah', k a → Q.r ok' ah' a x → Grow ah ah' → StR ok b own Γ env ah' → K.at' N ah' → PSR K F L E ok b own env ah' own' M S (f x ah')) : PSR K F L E ok b own env ah own' M S (r.thenS env f) := by
  cases r with
  | ok x ah' =>
    obtain ⟨a, ka, q, g, kk⟩ := h
    exact (hf a x ah' ka q g (st.grow O g) kk).after (PreS.ofGrow g st.bl (fun _ h => h))
  | exn c fs ah' =>
    obtain ⟨f, x, q, g, kk⟩ := h
    refine ⟨f, Γ, x, RX.mono hok Sta.refl q, fun ow ho => ?_, ⟨g.len, fun n h3 hn => g.same n h3 (Nat.lt_of_lt_of_le hn st.bl)⟩, K.mono kk hN⟩
    subst ho
    exact ⟨(st.grow O g).drop O (eok_sub hE), PreS.ofGrow g st.bl (eok_sub hE)⟩
  | stuck => exact h
def vSkip : VS := fun Γ S => S.nx Γ
def vSeq (a b : VS) : VS := fun Γ S => a Γ ⟨fun Γ' => b Γ' S, S.rt, S.bk, S.ct, S.ex⟩
def vRet (p : VE U) : VS := fun Γ S => p Γ (fun a f => S.ex a f Γ) S.rt
def vRetN : VS := fun _ S => S.rt .non
def vExpr (p : VE U) : VS := fun Γ S => p Γ (fun a f => S.ex a f Γ) fun _ => S.nx Γ
def vAsg (own : List Nat) (p : VE U) (t : VTM) : VS := fun Γ S => p (eraseU own Γ) (fun a f => S.ex a f Γ) fun u => match t u with
  | some bs => S.nx (setU Γ bs)
  | none => False
def vAsgF (p : VE U) (t : VTM) : VS := fun Γ S => p Γ (fun a f => S.ex a f Γ) fun u => u.flat = true ∧ match t u with
  | some bs => S.nx (setU Γ bs)
  | none => False
def vIfS (c : VE Bool) (a b : VS) : VS := fun Γ S => c Γ (fun a f => S.ex a f Γ) fun t => if t = true then a Γ S else b Γ S
def vBk : VS := fun Γ S => S.bk Γ
def vCt : VS := fun Γ S => S.ct Γ
theorem ls_skip : LS K F L E 0 own own sSkip vSkip := ⟨fun O st kk l x => ⟨_, x, st, PreS.ofGrow Grow.refl st.bl (fun _ h => h), kk⟩⟩
theorem ls_drop {c : Nat} {m : SM} {p : VS} (h : LS K F L E c own own1 m p) (hs : sub own' own1 = true := by rfl) : LS K F L E c own own' m p := ⟨fun {ok b Γ env ah N S} O st kk l x => by
  have := h.to O st kk l x
  revert this
  unfold PSR
  split
  · exact fun ⟨a, h1, h2, h3, h4⟩ => ⟨a, h1, h2.drop O (sub_sub hs), ⟨h3.len, h3.same, h3.old, fun i n hi => h3.refs i n (sub_sub hs hi)⟩, h4⟩
  all_goals exact fun h => h⟩
/-- .. let go of ahead -/
theorem ls_free {c : Nat} {m : SM} {p : VS} (h : LS K F L E c own1 own' m p) (hs : sub own1 own = true := by rfl) : LS K F L E c own own' m p := ⟨fun {ok b Γ env ah N S} O st kk l x =>
  (h.to O (st.drop O (sub_sub hs)) kk l x).after (PreS.ofGrow Grow.refl st.bl (sub_sub hs))⟩
theorem ls_seq {c c' : Nat} {m m' : SM} {p p' : VS} (h : LS K F L E c own own1 m p) (h' : LS K F L E c' own1 own' m' p') : LS K F L E (sq c c') own own' (sSeq m m') (vSeq p p') := ⟨fun {ok b Γ env ah N S} O st kk l x => by
  have s := cb_sq c c'
  have w := h.to O st kk (by omega) x
  unfold sSeq
  cases z : m env ah with
  | nx env1 ah1 =>
    rw [z] at w
    obtain ⟨Γ', h1, h2, h3, h4⟩ := w
    exact ((h'.to O h2 h4 (by omega) h1).after h3).le (by omega)
  | rt d ah1 => rw [z] at w; obtain ⟨u, h1, h2, h3, h4⟩ := w; exact ⟨u, h1, h2, h3, K.mono h4 (by omega)⟩
  | bk e ah1 => rw [z] at w; obtain ⟨u, h1, h2, h3, h4⟩ := w; exact ⟨u, h1, h2, h3, K.mono h4 (by omega)⟩
  | ct e ah1 => rw [z] at w; obtain ⟨u, h1, h2, h3, h4⟩ := w; exact ⟨u, h1, h2, h3, K.mono h4 (by omega)⟩
  | exn c fs e ah1 => rw [z] at w; obtain ⟨u, g, h1, h2, h3, h4, h5⟩ := w; exact ⟨u, g, h1, h2, h3, h4, K.mono h5 (by omega)⟩
  | stuck => rw [z] at w; exact w.elim⟩
theorem ls_ret {c : Nat} {m : EM D} {p : VE U} (h : LE K RU c m p) (hE : eok E own = true := by rfl) : LS K false L E c own own' (sRet m) (vRet p) := ⟨fun {ok b Γ env ah N S} O st kk l x =>
  PSR.expr O st hE (fun _ h => h) (h.to (st.okf O) (st.toEnv O) kk l x) (Nat.le_refl _) fun a d ah' ka q g st' kk' => ⟨a, ka, q, ⟨Nat.le_refl _, fun _ _ _ => rfl⟩, kk'⟩⟩
theorem ls_retN : LS K false L E 0 own own' sRetN vRetN := ⟨fun {ok b Γ env ah N S} O st kk l x => ⟨.non, x, by show R _ _ _ _; simp only [R], ⟨Nat.le_refl _, fun _ _ _ => rfl⟩, kk⟩⟩
theorem ls_bk (hs : sub L own = true := by rfl) : LS K F L E 0 own own' (fun env ah => .bk env ah) vBk := ⟨fun {ok b Γ env ah N S} O st kk l x => ⟨Γ, x, st.drop O (sub_sub hs), PreS.ofGrow Grow.refl st.bl (sub_sub hs), kk⟩⟩
theorem ls_ct (hs : sub L own = true := by rfl) : LS K F L E 0 own own' (fun env ah => .ct env ah) vCt := ⟨fun {ok b Γ env ah N S} O st kk l x => ⟨Γ, x, st.drop O (sub_sub hs), PreS.ofGrow Grow.refl st.bl (sub_sub hs), kk⟩⟩
theorem ls_expr {c : Nat} {m : EM D} {p : VE U} (h : LE K RU c m p) (hE : eok E own = true := by rfl) : LS K F L E c own own (sExpr m) (vExpr p) := ⟨fun {ok b Γ env ah N S} O st kk l x =>
  PSR.expr O st hE (fun _ h => h) (h.to (st.okf O) (st.toEnv O) kk l x) (Nat.le_refl _) fun a d ah' ka q g st' kk' => ⟨Γ, ka, st', PreS.ofGrow Grow.refl st'.bl (fun _ h => h), kk'⟩⟩
theorem PSR.bind {ok : Nat → Prop} {b : Nat} {Γ : UEnv} {env : HA.Env} {ah : AH} {N : Nat} {S : SK} {tm : TM} {vt : VTM} {ts : List Nat} {u : U} {d : D} (O : OkB ok b) (st : StR ok b own Γ env ah) (hT : LTg tm vt ts) (hd : dis ts own = true) (q : R (av ok env own) ah u d) (kk : K.at' N ah)
    (x : match vt u with
      | some bs => S.nx (setU Γ bs)
      | none => False) : PSR K F L E ok b own env ah own N S (match tm d env ah with
      | some env1 => .nx env1 ah
      | none => .stuck) := by
  split at x
  · rename_i bs hb
    obtain ⟨cs, h1, h2, h3⟩ := hT.to env q hb
    rw [h1]
    have hn : ∀ y ∈ bs, y.1 ∉ own := fun y hy => dis_not hd (h3 y hy)
    refine ⟨_, x, st.sets h2 hn, ⟨Nat.le_refl _, fun _ _ _ _ => rfl, fun _ _ _ => rfl, fun i n hi e _ => ⟨i, hi, ?_⟩⟩, kk⟩
    rw [← e]
    refine (setD_ne env cs fun y hy z => ?_).symm
    have : y.1 ∈ bs.map (·.1) := by rw [h2.1]; exact List.mem_map_of_mem hy
    obtain ⟨w, hw, ew⟩ := List.mem_map.mp this
    exact hn w hw (by rw [ew, z]; exact hi)
  · exact x.elim
theorem ls_asg {c : Nat} {m : EM D} {p : VE U} {tm : TM} {vt : VTM} {ts : List Nat} (h : LE K RU c m p) (hT : LTg tm vt ts) (hd : dis ts own = true := by rfl) (hE : eok E own = true := by rfl) : LS K F L E c own own (sAsg m tm) (vAsg own p vt) := ⟨fun {ok b Γ env ah N S} O st kk l x =>
  PSR.expr O st hE (fun _ h => h.1) (h.to (st.okav O) st.clean kk l x) (Nat.le_refl _) fun a d ah' ka q g st' kk' => PSR.bind O st' hT hd q kk' ka⟩
theorem ls_asgF {c : Nat} {m : EM D} {p : VE U} {tm : TM} {vt : VTM} {ts : List Nat} (h : LE K RU c m p) (hT : LTg tm vt ts) (hd : dis ts own = true := by rfl) (hE : eok E own = true := by rfl) : LS K F L E c own own (sAsg m tm) (vAsgF p vt) := ⟨fun {ok b Γ env ah N S} O st kk l x =>
  PSR.expr O st hE (fun _ h => h) (h.to (st.okf O) (st.toEnv O) kk l x) (Nat.le_refl _) fun a d ah' ka q g st' kk' => PSR.bind O st' hT hd (R.flat _ _ ka.1 q) kk' ka.2⟩
theorem ls_if {c c1 c2 : Nat} {mc : EM Bool} {pc : VE Bool} {m m' : SM} {p p' : VS} (hc : LE K (REq Bool) c mc pc) (h : LS K F L E c1 own own' m p) (h' : LS K F L E c2 own own' m' p') (hE : eok E own = true := by rfl) : LS K F L E (sq c (sq c1 c2)) own own' (sIf mc m m') (vIfS pc p p') := ⟨fun {ok b Γ env ah N S} O st kk l x => by
  have s := cb_sq c (sq c1 c2)
  have s' := cb_sq c1 c2
  refine PSR.expr (N := N + cb c) O st hE (fun _ h => h) (hc.to (st.okf O) (st.toEnv O) kk (by omega) x) (by omega) fun a d ah' ka q g st' kk' => ?_
  cases q
  cases a with
  | true => exact (h.to O st' kk' (by omega) ka).le (by omega)
  | false => exact (h'.to O st' kk' (by omega) ka).le (by omega)⟩
/-! a new object, held by one variable -/
structure LN (c : Nat) (m : EM D) (p : VE U) : Prop where
  to : ∀ {ok : Nat → Prop} {Γ : UEnv} {env : HA.Env} {ah : AH} {N : Nat} {X : ExK} {k : U → Prop}, OkF ok ah → EnvR ok ah Γ env → K.at' N ah → N + cb c ≤ LIM → p Γ X k → match m env ah with
    | .ok d ah' => ∃ u n o, k u ∧ d = .ref n ∧ ah.length ≤ n ∧ ah'[n]? = some o ∧ OR (fun m => ok m ∧ m ≠ n) ah' u o ∧ Grow ah ah' ∧ K.at' (N + cb c) ah'
    | .exn a fs ah' => ∃ f, X a f ∧ RX ok ah' f fs ∧ Grow ah ah' ∧ K.at' (N + cb c) ah'
    | .stuck => False
theorem ln_new {c : Nat} {m : EM (List D)} {p : VE (List U)} (h : LE K RUs c m p) : LN (K := K) c (eNew m) (vNew p) := ⟨fun {ok Γ env ah N X k} o e kk l x => by
  have w := h.to o e kk l x
  unfold eNew e1
  cases z : m env ah with
  | ok ds ah1 =>
    rw [z] at w
    obtain ⟨us, h1, h2, h3, h4⟩ := w
    have h2' : Rs ok ah1 us ds := h2
    refine ⟨.lst us, ah1.length, .lst ds, h1, rfl, h3.len, by simp, ?_, h3.trans Grow.app, K.app _ h4⟩
    exact Rs.mono (fun n a => ⟨a.1, by have := a.2; omega⟩) (fun n o a e => by rw [List.getElem?_append_left a.2]; exact e) _ _ (Rs.inb _ _ h2')
  | exn a fs ah1 => rw [z] at w; exact w
  | stuck => rw [z] at w; exact w⟩
def vAsgN (own : List Nat) (p : VE U) (i : Nat) : VS := fun Γ S => i < Γ.length ∧ vAsg own p (tSet i) Γ S
theorem ls_new {c i : Nat} {m : EM D} {p : VE U} (h : LN (K := K) c m p) (hs : sub own' (i :: own) = true := by rfl) (hE : eok E own = true := by rfl) : LS K F L E c own own' (sAsg m (gSet i)) (vAsgN own p i) := ⟨fun {ok b Γ env ah N S} O st kk l x => by
  obtain ⟨hi, x⟩ := x
  have w := h.to (st.okav O) st.clean kk l x
  unfold sAsg
  cases z : m env ah with
  | ok d ah1 =>
    rw [z] at w
    obtain ⟨u, n, o, h1, rfl, h3, h4, h5, h6, h7⟩ := w
    refine ⟨_, h1, st.new O h6 h3 h4 h5 (by rw [st.len]; exact hi) (sub_sub hs), ⟨h6.len, fun m a b _ => h6.same m a b, fun m a c => h6.same m a (Nat.lt_of_lt_of_le c st.bl), fun j m hj e hm => ?_⟩, h7⟩
    by_cases h' : i = j
    · subst h'
      have hl : i < env.length := by rw [st.len]; exact hi
      rw [List.getElem?_set_self hl] at e
      cases e
      omega
    · rw [List.getElem?_set_ne h'] at e
      rcases List.mem_cons.mp (sub_sub hs hj) with q | q
      · exact absurd q.symm h'
      · exact ⟨j, q, e⟩
  | exn a fs ah1 =>
    rw [z] at w
    obtain ⟨f, x1, x2, g, kk'⟩ := w
    refine ⟨f, Γ, x1, RX.mono (fun _ h => h.1) Sta.refl x2, fun ow ho => ?_, ⟨g.len, fun n h3 hn => g.same n h3 (Nat.lt_of_lt_of_le hn st.bl)⟩, kk'⟩
    subst ho
    exact ⟨(st.grow O g).drop O (eok_sub hE), PreS.ofGrow g st.bl (eok_sub hE)⟩
  | stuck => rw [z] at w; exact w.elim⟩
/-- told back: a new one -/
theorem ls_retF {c : Nat} {m : EM D} {p : VE U} (h : LN (K := K) c m p) (hE : eok E own = true := by rfl) : LS K true L E c own own' (sRet m) (vRet p) := ⟨fun {ok b Γ env ah N S} O st kk l x => by
  have w := h.to (st.okf O) (st.toEnv O) kk l x
  unfold sRet
  cases z : m env ah with
  | ok d ah1 =>
    rw [z] at w
    obtain ⟨u, n, o, h1, rfl, h3, h4, h5, h6, h7⟩ := w
    exact ⟨u, h1, ⟨n, o, rfl, Nat.le_trans st.bl h3, h4, h5⟩, ⟨h6.len, fun n h3 hn => h6.same n h3 (Nat.lt_of_lt_of_le hn st.bl)⟩, h7⟩
  | exn a fs ah1 =>
    rw [z] at w
    obtain ⟨f, x1, x2, g, kk'⟩ := w
    refine ⟨f, Γ, x1, x2, fun ow ho => ?_, ⟨g.len, fun n h3 hn => g.same n h3 (Nat.lt_of_lt_of_le hn st.bl)⟩, kk'⟩
    subst ho
    exact ⟨(st.grow O g).drop O (eok_sub hE), PreS.ofGrow g st.bl (eok_sub hE)⟩
  | stuck => rw [z] at w; exact w.elim⟩
theorem ls_retO {i : Nat} (hi : own.contains i = true := by rfl) : LS K true L E 0 own own' (sRet (eVar i)) (vRet (vVar i)) := ⟨fun {ok b Γ env ah N S} O st kk l x => by
  have hi' : i ∈ own := by simpa using hi
  obtain ⟨n, o, u, e1, e2, e3, e4, e5⟩ := st.ow i hi'
  unfold vRet vVar at x
  rw [e4] at x
  unfold sRet eVar
  rw [e1]
  refine ⟨u, x, ⟨n, o, rfl, e2, e3, e5.mono (fun m a => ⟨a.1, fun z => a.2 i hi' (by rw [z]; exact e1)⟩) Sta.refl⟩, ⟨Nat.le_refl _, fun _ _ _ => rfl⟩, kk⟩⟩
end
end HV

/-! V7: loops, changes of lists and dicts, calls. -/
namespace HV
open PySem PySem.Spec PyProof.Rows L2 HA
section
variable {K : Dks} {F : Bool} {L : List Nat} {E : Option (List Nat)} {own own' own1 own2 : List Nat}
def vForL (vt : VTM) (body : VS) : List U → UEnv → SK → Prop
  | [], Γ, S => S.nx Γ
  | u :: us, Γ, S => match vt u with
    | some bs => body (setU Γ bs) ⟨fun Γ' => vForL vt body us Γ' S, S.rt, S.nx, fun Γ' => vForL vt body us Γ' S, S.ex⟩
    | none => False
/-- a loop that draws nothing -/
def vFor (own : List Nat) (pi : VE (List U)) (vt : VTM) (body : VS) : VS := fun Γ S => pi (eraseU own Γ) (fun a f => S.ex a f Γ) fun us => vForL vt body us Γ S
def vForB (own : List Nat) (pi : VE (List U)) (vt : VTM) (body : VS) : VS := fun Γ S => pi (eraseU own Γ) (fun a f => S.ex a f Γ) fun us => us.length ≤ line ∧ vForL vt body us Γ S
theorem guard_pre {b : Nat} {ok : Nat → Prop} {env env' : HA.Env} {ah ah' : AH} {t : Itm} (O : OkB ok b) (p : PreS b own env ah own env' ah') (hg : ∀ q, q ∈ t.guard → av ok env own q.1 ∧ ah[q.1]? = some (.lst q.2)) : ∀ q, q ∈ t.guard → av ok env' own q.1 ∧ ah'[q.1]? = some (.lst q.2) := fun q hq => by
  obtain ⟨a, e⟩ := hg q hq
  have hl := (List.getElem?_eq_some_iff.mp e).1
  refine ⟨⟨a.1, fun i hi z => ?_⟩, ?_⟩
  · obtain ⟨j, hj, ej⟩ := p.refs i _ hi z hl
    exact a.2 j hj ej
  · rw [p.same _ (O.three _ a.1) hl a.2]; exact e
theorem av_pre {b : Nat} {ok : Nat → Prop} {env env' : HA.Env} {ah ah' : AH} (p : PreS b own env ah own env' ah') {n : Nat} (a : av ok env own n ∧ n < ah.length) : av ok env' own n := ⟨a.1.1, fun i hi z => by
  obtain ⟨j, hj, ej⟩ := p.refs i _ hi z a.2
  exact a.1.2 j hj ej⟩
theorem Rs.pre {b : Nat} {ok : Nat → Prop} {env env' : HA.Env} {ah ah' : AH} {us : List U} {ds : List D} (O : OkB ok b) (p : PreS b own env ah own env' ah') (r : Rs (av ok env own) ah us ds) : Rs (av ok env' own) ah' us ds :=
  Rs.mono (fun n a => av_pre p a) (fun n o a e => by rw [p.same n (O.three n a.1.1) a.2 a.1.2]; exact e) _ _ (Rs.inb _ _ r)
theorem forLoop_V {c : Nat} {t : Itm} {tm : TM} {vt : VTM} {ts : List Nat} {body : SM} {pb : VS} {ok : Nat → Prop} {b : Nat} {S : SK} {L0 : List Nat} (O : OkB ok b) (hT : LTg tm vt ts) (hd : dis ts own = true) (hb : LS K F own E c own own body pb) :
    ∀ (us : List U) (ds : List D) (Γ : UEnv) (env : HA.Env) (ah : AH) (N : Nat), StR ok b own Γ env ah → K.at' N ah → (∀ q, q ∈ t.guard → av ok env own q.1 ∧ ah[q.1]? = some (.lst q.2)) → N + us.length * cb c ≤ LIM → Rs (av ok env own) ah us ds → vForL vt pb us Γ S → PSR K F L0 E ok b own env ah own (N + us.length * cb c) S (forLoop t tm body ds env ah)
  | [], ds, Γ, env, ah, N, st, kk, hg, l, r, x => by
    simp only [Rs] at r
    subst r
    unfold forLoop
    rw [if_pos (okIn_of fun p hp => (hg p hp).2)]
    exact ⟨Γ, x, st, PreS.ofGrow Grow.refl st.bl (fun _ h => h), by simpa using kk⟩
  | u :: us, ds, Γ, env, ah, N, st, kk, hg, l, r, x => by
    simp only [Rs] at r
    obtain ⟨d, ds, rfl, q, r⟩ := r
    rw [List.length_cons, Nat.add_mul, Nat.one_mul] at l ⊢
    unfold vForL at x
    split at x
    · rename_i bs hbs
      obtain ⟨cs, h1, h2, h3⟩ := hT.to env q hbs
      have hn : ∀ y ∈ bs, y.1 ∉ own := fun y hy => dis_not hd (h3 y hy)
      have st1 := st.sets h2 hn
      have p1 : PreS b own env ah own (setD env cs) ah := ⟨Nat.le_refl _, fun _ _ _ _ => rfl, fun _ _ _ => rfl, fun i n hi e _ => ⟨i, hi, by
        rw [← e]
        refine (setD_ne env cs fun y hy z => ?_).symm
        have : y.1 ∈ bs.map (·.1) := by rw [h2.1]; exact List.mem_map_of_mem hy
        obtain ⟨w, hw, ew⟩ := List.mem_map.mp this
        exact hn w hw (by rw [ew, z]; exact hi)⟩⟩
      unfold forLoop
      rw [if_pos (okIn_of fun p hp => (hg p hp).2), h1]
      simp only
      have w := hb.to O st1 kk (by omega) x
      have go : ∀ (Γ' : UEnv) (env' : HA.Env) (ah' : AH), vForL vt pb us Γ' S → StR ok b own Γ' env' ah' → PreS b own (setD env cs) ah own env' ah' → K.at' (N + cb c) ah' → PSR K F L0 E ok b own env ah own (N + (us.length * cb c + cb c)) S (forLoop t tm body ds env' ah') := fun Γ' env' ah' y1 y2 y3 y4 => by
        have p2 := p1.trans y3
        exact ((forLoop_V O hT hd hb us ds Γ' env' ah' (N + cb c) y2 y4 (guard_pre O p2 hg) (by omega) (Rs.pre O p2 r) y1).after p2).le (by omega)
      cases z : body (setD env cs) ah with
      | nx env1 ah1 => rw [z] at w; obtain ⟨Γ', y1, y2, y3, y4⟩ := w; exact go Γ' env1 ah1 y1 y2 y3 y4
      | ct env1 ah1 => rw [z] at w; obtain ⟨Γ', y1, y2, y3, y4⟩ := w; exact go Γ' env1 ah1 y1 y2 y3 y4
      | bk env1 ah1 => rw [z] at w; obtain ⟨Γ', y1, y2, y3, y4⟩ := w; exact ⟨Γ', y1, y2, p1.trans y3, K.mono y4 (by omega)⟩
      | rt d ah1 => rw [z] at w; obtain ⟨u, h1, h2, h3, h4⟩ := w; exact ⟨u, h1, h2, p1.growB.trans h3, K.mono h4 (by omega)⟩
      | exn a fs e ah1 => rw [z] at w; obtain ⟨u, g, h1, h2, h3, h4, h5⟩ := w; exact ⟨u, g, h1, h2, fun ow ho => ⟨(h3 ow ho).1, p1.trans (h3 ow ho).2⟩, p1.growB.trans h4, K.mono h5 (by omega)⟩
      | stuck => rw [z] at w; exact w.elim
    · exact x.elim
theorem ls_for {c : Nat} {mi : EM Itm} {pi : VE (List U)} {tm : TM} {vt : VTM} {ts : List Nat} {body : SM} {pb : VS} (hi : LE K RIt c mi pi) (hT : LTg tm vt ts) (hb : LS K F own E 0 own own body pb) (hd : dis ts own = true := by rfl) (hE : eok E own = true := by rfl) : LS K F L E c own own (sFor mi tm body) (vFor own pi vt pb) := ⟨fun {ok b Γ env ah N S} O st kk l x =>
  PSR.expr (N := N + cb c) O st hE (fun _ h => h.1) (hi.to (st.okav O) st.clean kk l x) (Nat.le_refl _) fun us t ah' ka q g st' kk' => by
    have := forLoop_V (L0 := L) O hT hd hb us t.items Γ env ah' (N + cb c) st' kk' q.2 (by rw [cb_zero]; omega) q.1 ka
    exact this.le (by rw [cb_zero]; omega)⟩
theorem ls_forB {c c' : Nat} {mi : EM Itm} {pi : VE (List U)} {tm : TM} {vt : VTM} {ts : List Nat} {body : SM} {pb : VS} (hi : LE K RIt c mi pi) (hT : LTg tm vt ts) (hb : LS K F own E c' own own body pb) (hd : dis ts own = true := by rfl) (hE : eok E own = true := by rfl) : LS K F L E (sq c (lp c')) own own (sFor mi tm body) (vForB own pi vt pb) := ⟨fun {ok b Γ env ah N S} O st kk l x => by
  have s := cb_sq c (lp c')
  refine PSR.expr (N := N + cb c) O st hE (fun _ h => h.1) (hi.to (st.okav O) st.clean kk (by omega) x) (by omega) fun us t ah' ka q g st' kk' => ?_
  have lb := cb_lp c' us.length ka.1
  have := forLoop_V (L0 := L) O hT hd hb us t.items Γ env ah' (N + cb c) st' kk' q.2 (by omega) q.1 ka.2
  exact this.le (by omega)⟩
/-! targets with a star -/
structure LTX (tm : TMX) (vt : VTM) (ts : List Nat) : Prop where
  to : ∀ {ok : Nat → Prop} {ah : AH} {u : U} {d : D} {bs : List (Nat × U)} (env : HA.Env), OkF ok ah → R ok ah u d → vt u = some bs → ∃ cs x, tm d env ah = some (setD env cs, ah ++ x) ∧ Rb ok (ah ++ x) bs cs ∧ ∀ x ∈ bs, x.1 ∈ ts
def tStar (n : Nat) (r : List U → Option (List (Nat × U))) : VTM := fun u => match u with
  | .tup us => if n ≤ us.length then r (us.take n ++ [.lst (us.drop n)]) else none
  | _ => none
theorem lt_star {n : Nat} {ts : List Nat} {um : List D → HA.Env → AH → Option HA.Env} {vu : List U → Option (List (Nat × U))} (h : LTs um vu ts) : LTX (gStarD n um) (tStar n vu) ts := ⟨fun {ok ah u d bs} env o r e => by
  unfold tStar at e
  split at e
  · split at e
    · rename_i us hl
      simp only [R] at r
      obtain ⟨ds, rfl, r⟩ := r
      have r' := Rs.grow r o (Grow.app (x := [.lst (ds.drop n)]))
      have rr : Rs ok (ah ++ [.lst (ds.drop n)]) (us.take n ++ [.lst (us.drop n)]) (ds.take n ++ [.ref ah.length]) := (r'.take n).app (Rs.cons (by simp only [R]; exact ⟨ah.length, ds.drop n, rfl, o.fresh _ (Nat.le_refl _), by simp, r'.drop n⟩) Rs.nil)
      obtain ⟨cs, h1, h2⟩ := h.to env rr e
      refine ⟨cs, _, ?_, h2⟩
      unfold gStarD
      simp only
      rw [if_pos (by rw [← r.len]; exact hl), h1]
      rfl
    · cases e
  · cases e⟩
theorem PSR.bindX {ok : Nat → Prop} {b : Nat} {Γ : UEnv} {env : HA.Env} {ah : AH} {tm : TMX} {vt : VTM} {ts : List Nat} {u : U} {d : D} {bs : List (Nat × U)} (O : OkB ok b) (st : StR ok b own Γ env ah) (hT : LTX tm vt ts) (hd : dis ts own = true) (q : R (av ok env own) ah u d) (hb : vt u = some bs) :
    ∃ cs y, tm d env ah = some (setD env cs, ah ++ y) ∧ StR ok b own (setU Γ bs) (setD env cs) (ah ++ y) ∧ PreS b own env ah own (setD env cs) (ah ++ y) := by
  obtain ⟨cs, y, h1, h2, h3⟩ := hT.to env (st.okav O) q hb
  have hn : ∀ y ∈ bs, y.1 ∉ own := fun y hy => dis_not hd (h3 y hy)
  refine ⟨cs, y, h1, (st.grow O Grow.app).sets h2 hn, ⟨by simp, fun n _ h _ => List.getElem?_append_left h, fun n _ h => List.getElem?_append_left (Nat.lt_of_lt_of_le h st.bl), fun i n hi e _ => ⟨i, hi, ?_⟩⟩⟩
  rw [← e]
  refine (setD_ne env cs fun y hy z => ?_).symm
  have : y.1 ∈ bs.map (·.1) := by rw [h2.1]; exact List.mem_map_of_mem hy
  obtain ⟨w, hw, ew⟩ := List.mem_map.mp this
  exact hn w hw (by rw [ew, z]; exact hi)
theorem ls_asgX {c : Nat} {m : EM D} {p : VE U} {tm : TMX} {vt : VTM} {ts : List Nat} (h : LE K RU c m p) (hT : LTX tm vt ts) (hd : dis ts own = true := by rfl) (hE : eok E own = true := by rfl) : LS K F L E c own own (sAsgX m tm) (vAsg own p vt) := ⟨fun {ok b Γ env ah N S} O st kk l x =>
  PSR.expr O st hE (fun _ h => h.1) (h.to (st.okav O) st.clean kk l x) (Nat.le_refl _) fun a d ah' ka q g st' kk' => by
    split at ka
    · rename_i bs hbs
      obtain ⟨cs, y, h1, h2, h3⟩ := PSR.bindX O st' hT hd q hbs
      rw [h1]
      exact ⟨_, ka, h2, h3, K.app _ kk'⟩
    · exact ka.elim⟩
theorem forLoopX_V {c : Nat} {t : Itm} {tm : TMX} {vt : VTM} {ts : List Nat} {body : SM} {pb : VS} {ok : Nat → Prop} {b : Nat} {S : SK} {L0 : List Nat} (O : OkB ok b) (hT : LTX tm vt ts) (hd : dis ts own = true) (hb : LS K F own E c own own body pb) :
    ∀ (us : List U) (ds : List D) (Γ : UEnv) (env : HA.Env) (ah : AH) (N : Nat), StR ok b own Γ env ah → K.at' N ah → (∀ q, q ∈ t.guard → av ok env own q.1 ∧ ah[q.1]? = some (.lst q.2)) → N + us.length * cb c ≤ LIM → Rs (av ok env own) ah us ds → vForL vt pb us Γ S → PSR K F L0 E ok b own env ah own (N + us.length * cb c) S (forLoopX t tm body ds env ah)
  | [], ds, Γ, env, ah, N, st, kk, hg, l, r, x => by
    simp only [Rs] at r
    subst r
    unfold forLoopX
    rw [if_pos (okIn_of fun p hp => (hg p hp).2)]
    exact ⟨Γ, x, st, PreS.ofGrow Grow.refl st.bl (fun _ h => h), by simpa using kk⟩
  | u :: us, ds, Γ, env, ah, N, st, kk, hg, l, r, x => by
    simp only [Rs] at r
    obtain ⟨d, ds, rfl, q, r⟩ := r
    rw [List.length_cons, Nat.add_mul, Nat.one_mul] at l ⊢
    unfold vForL at x
    split at x
    · rename_i bs hbs
      obtain ⟨cs, y, h1, st1, p1⟩ := PSR.bindX O st hT hd q hbs
      unfold forLoopX
      rw [if_pos (okIn_of fun p hp => (hg p hp).2), h1]
      simp only
      have w := hb.to O st1 (K.app y kk) (by omega) x
      have go : ∀ (Γ' : UEnv) (env' : HA.Env) (ah' : AH), vForL vt pb us Γ' S → StR ok b own Γ' env' ah' → PreS b own (setD env cs) (ah ++ y) own env' ah' → K.at' (N + cb c) ah' → PSR K F L0 E ok b own env ah own (N + (us.length * cb c + cb c)) S (forLoopX t tm body ds env' ah') := fun Γ' env' ah' y1 y2 y3 y4 => by
        have p2 := p1.trans y3
        exact ((forLoopX_V O hT hd hb us ds Γ' env' ah' (N + cb c) y2 y4 (guard_pre O p2 hg) (by omega) (Rs.pre O p2 r) y1).after p2).le (by omega)
      unfold SRes.turn
      cases z : body (setD env cs) (ah ++ y) with
      | nx env1 ah1 => rw [z] at w; obtain ⟨Γ', y1, y2, y3, y4⟩ := w; exact go Γ' env1 ah1 y1 y2 y3 y4
      | ct env1 ah1 => rw [z] at w; obtain ⟨Γ', y1, y2, y3, y4⟩ := w; exact go Γ' env1 ah1 y1 y2 y3 y4
      | bk env1 ah1 => rw [z] at w; obtain ⟨Γ', y1, y2, y3, y4⟩ := w; exact ⟨Γ', y1, y2, p1.trans y3, K.mono y4 (by omega)⟩
      | rt d ah1 => rw [z] at w; obtain ⟨u, h1, h2, h3, h4⟩ := w; exact ⟨u, h1, h2, p1.growB.trans h3, K.mono h4 (by omega)⟩
      | exn a fs e ah1 => rw [z] at w; obtain ⟨u, g, h1, h2, h3, h4, h5⟩ := w; exact ⟨u, g, h1, h2, fun ow ho => ⟨(h3 ow ho).1, p1.trans (h3 ow ho).2⟩, p1.growB.trans h4, K.mono h5 (by omega)⟩
      | stuck => rw [z] at w; exact w.elim
    · exact x.elim
theorem ls_forX {c : Nat} {mi : EM Itm} {pi : VE (List U)} {tm : TMX} {vt : VTM} {ts : List Nat} {body : SM} {pb : VS} (hi : LE K RIt c mi pi) (hT : LTX tm vt ts) (hb : LS K F own E 0 own own body pb) (hd : dis ts own = true := by rfl) (hE : eok E own = true := by rfl) : LS K F L E c own own (sForX mi tm body) (vFor own pi vt pb) := ⟨fun {ok b Γ env ah N S} O st kk l x =>
  PSR.expr (N := N + cb c) O st hE (fun _ h => h.1) (hi.to (st.okav O) st.clean kk l x) (Nat.le_refl _) fun us t ah' ka q g st' kk' => by
    have := forLoopX_V (L0 := L) O hT hd hb us t.items Γ env ah' (N + cb c) st' kk' q.2 (by rw [cb_zero]; omega) q.1 ka
    exact this.le (by rw [cb_zero]; omega)⟩
theorem ls_forXB {c c' : Nat} {mi : EM Itm} {pi : VE (List U)} {tm : TMX} {vt : VTM} {ts : List Nat} {body : SM} {pb : VS} (hi : LE K RIt c mi pi) (hT : LTX tm vt ts) (hb : LS K F own E c' own own body pb) (hd : dis ts own = true := by rfl) (hE : eok E own = true := by rfl) : LS K F L E (sq c (lp c')) own own (sForX mi tm body) (vForB own pi vt pb) := ⟨fun {ok b Γ env ah N S} O st kk l x => by
  have s := cb_sq c (lp c')
  refine PSR.expr (N := N + cb c) O st hE (fun _ h => h.1) (hi.to (st.okav O) st.clean kk (by omega) x) (by omega) fun us t ah' ka q g st' kk' => ?_
  have lb := cb_lp c' us.length ka.1
  have := forLoopX_V (L0 := L) O hT hd hb us t.items Γ env ah' (N + cb c) st' kk' q.2 (by omega) q.1 ka.2
  exact this.le (by omega)⟩
/-! while -/
def vWh (pc : VE Bool) (body : VS) : Nat → VS
  | 0 => fun _ _ => False
  | n + 1 => fun Γ S => pc Γ (fun a f => S.ex a f Γ) fun t => if t = true then body Γ ⟨fun Γ' => vWh pc body n Γ' S, S.rt, S.nx, fun Γ' => vWh pc body n Γ' S, S.ex⟩ else S.nx Γ
theorem whLoop_V {c c' : Nat} {mc : EM Bool} {pc : VE Bool} {body : SM} {pb : VS} {ok : Nat → Prop} {b : Nat} {S : SK} {L0 : List Nat} (O : OkB ok b) (hc : LE K (REq Bool) c mc pc) (hb : LS K F own E c' own own body pb) (hE : eok E own = true) :
    ∀ (n : Nat) (Γ : UEnv) (env : HA.Env) (ah : AH) (N : Nat), StR ok b own Γ env ah → K.at' N ah → N + n * cb (sq c c') ≤ LIM → vWh pc pb n Γ S → PSR K F L0 E ok b own env ah own (N + n * cb (sq c c')) S (whLoop mc body n env ah)
  | 0, Γ, env, ah, N, st, kk, l, x => x.elim
  | n + 1, Γ, env, ah, N, st, kk, l, x => by
    have s := cb_sq c c'
    rw [Nat.add_mul, Nat.one_mul] at l ⊢
    unfold vWh at x
    unfold whLoop
    refine PSR.expr (N := N + cb c) O st hE (fun _ h => h) (hc.to (st.okf O) (st.toEnv O) kk (by omega) x) (by omega) fun a d ah' ka q g st' kk' => ?_
    cases q
    cases a with
    | false => exact ⟨Γ, ka, st', PreS.ofGrow Grow.refl st'.bl (fun _ h => h), K.mono kk' (by omega)⟩
    | true =>
      simp only [if_true] at ka ⊢
      have w := hb.to O st' kk' (by omega) ka
      have go : ∀ (Γ' : UEnv) (env' : HA.Env) (ah2 : AH), vWh pc pb n Γ' S → StR ok b own Γ' env' ah2 → PreS b own env ah' own env' ah2 → K.at' (N + cb c + cb c') ah2 → PSR K F L0 E ok b own env ah' own (N + (n * cb (sq c c') + cb (sq c c'))) S (whLoop mc body n env' ah2) := fun Γ' env' ah2 y1 y2 y3 y4 =>
        ((whLoop_V O hc hb hE n Γ' env' ah2 (N + cb c + cb c') y2 y4 (by omega) y1).after y3).le (by omega)
      cases z : body env ah' with
      | nx env1 ah1 => rw [z] at w; obtain ⟨Γ', y1, y2, y3, y4⟩ := w; exact go Γ' env1 ah1 y1 y2 y3 y4
      | ct env1 ah1 => rw [z] at w; obtain ⟨Γ', y1, y2, y3, y4⟩ := w; exact go Γ' env1 ah1 y1 y2 y3 y4
      | bk env1 ah1 => rw [z] at w; obtain ⟨Γ', y1, y2, y3, y4⟩ := w; exact ⟨Γ', y1, y2, y3, K.mono y4 (by omega)⟩
      | rt d ah1 => rw [z] at w; obtain ⟨u, h1, h2, h3, h4⟩ := w; exact ⟨u, h1, h2, h3, K.mono h4 (by omega)⟩
      | exn a fs e ah1 => rw [z] at w; obtain ⟨u, g, h1, h2, h3, h4, h5⟩ := w; exact ⟨u, g, h1, h2, h3, h4, K.mono h5 (by omega)⟩
      | stuck => rw [z] at w; exact w.elim
theorem ls_while {c c' n : Nat} {mc : EM Bool} {pc : VE Bool} {body : SM} {pb : VS} (hc : LE K (REq Bool) c mc pc) (hb : LS K F own E c' own own body pb) (hn : Nat.ble n (2 ^ 24) = true := by rfl) (hE : eok E own = true := by rfl) : LS K F L E (lp (sq c c')) own own (whLoop mc body n) (vWh pc pb n) := ⟨fun {ok b Γ env ah N S} O st kk l x => by
  have lb := cb_lp (sq c c') n (Nat.le_of_ble_eq_true hn)
  exact (whLoop_V (L0 := L) O hc hb hE n Γ env ah N st kk (by omega) x).le (by omega)⟩
/-! pairs -/
def vPar2 (own : List Nat) (i j : Nat) (p : VE (List U)) : VS := fun Γ S => p (eraseU own Γ) (fun a f => S.ex a f Γ) fun us => match us with
  | [x, y] => S.nx ((Γ.set i (some x)).set j (some y))
  | _ => False
theorem ls_par2 {c i j : Nat} {m : EM (List D)} {p : VE (List U)} (h : LE K RUs c m p) (hd : dis [i, j] own = true := by rfl) (hE : eok E own = true := by rfl) : LS K F L E c own own (sPar2 i j m) (vPar2 own i j p) := ⟨fun {ok b Γ env ah N S} O st kk l x =>
  PSR.expr O st hE (fun _ h => h.1) (h.to (st.okav O) st.clean kk l x) (Nat.le_refl _) fun us ds ah' ka q g st' kk' => by
    change Rs (av ok env own) ah' us ds at q
    split at ka
    · rename_i u v
      simp only [Rs] at q
      obtain ⟨d, es, rfl, q1, e, es2, rfl, q2, rfl⟩ := q
      have r : Rb (av ok env own) ah' [(i, u), (j, v)] [(i, d), (j, e)] := ⟨rfl, Rs.cons q1 (Rs.cons q2 Rs.nil)⟩
      have hi : i ∉ own := dis_not hd (by simp)
      have hj : j ∉ own := dis_not hd (by simp)
      refine ⟨_, ka, st'.sets r (fun x hx => ?_), ⟨Nat.le_refl _, fun _ _ _ _ => rfl, fun _ _ _ => rfl, fun k n hk ek _ => ⟨k, hk, ?_⟩⟩, kk'⟩
      · simp only [List.mem_cons, List.not_mem_nil, or_false] at hx
        rcases hx with rfl | rfl
        · exact hi
        · exact hj
      · rw [← ek]
        have h1 : i ≠ k := fun z => hi (z ▸ hk)
        have h2 : j ≠ k := fun z => hj (z ▸ hk)
        rw [List.getElem?_set_ne h2, List.getElem?_set_ne h1]
    · exact ka.elim⟩
/-! methods that change a list -/
abbrev VMt := U → List U → (U → U → Prop) → Prop
structure LMt (f : D → List D → AH → Res D) (vf : VMt) : Prop where
  to : ∀ {ok : Nat → Prop} {ah : AH} {n : Nat} {o : AObj} {u : U} {us : List U} {ds : List D} {k : U → U → Prop}, ¬ ok n → ah[n]? = some o → OR ok ah u o → Rs ok ah us ds → vf u us k → ∃ d o' r u', f (.ref n) ds ah = .ok d (ah.set n o') ∧ k r u' ∧ R ok ah r d ∧ OR ok ah u' o'
def vAppend : VMt
  | .lst xs, [y], k => xs.length < line ∧ k .non (.lst (xs ++ [y]))
  | _, _, _ => False
theorem OR.lst {ok : Nat → Prop} {ah : AH} {xs : List U} {o : AObj} (h : OR ok ah (.lst xs) o) : ∃ ds, o = .lst ds ∧ Rs ok ah xs ds := by
  cases o with
  | lst ds => exact ⟨ds, rfl, h⟩
  | _ => exact h.elim
theorem lm_append : LMt mAppend vAppend := ⟨fun {ok ah n o u us ds k} hn e r q x => by
  unfold vAppend at x
  split at x
  · obtain ⟨xs, rfl, r⟩ := r.lst
    simp only [Rs] at q
    obtain ⟨d, es, rfl, q, rfl⟩ := q
    unfold mAppend
    simp only [e]
    rw [if_pos (by rw [← r.len]; exact x.1)]
    exact ⟨_, _, _, _, rfl, x.2, by simp only [R], r.app (Rs.cons q Rs.nil)⟩
  · exact x.elim⟩
def vPop : VMt
  | .lst xs, [], k => match xs[xs.length - 1]? with
    | some y => k y (.lst xs.dropLast)
    | none => False
  | .lst xs, [.int i], k => (-(2 ^ 63) ≤ i ∧ i < 2 ^ 63) ∧ match seqIndex? i xs.length with
    | some j => match xs[j]? with
      | some y => k y (.lst (xs.eraseIdx j))
      | none => False
    | none => False
  | _, _, _ => False
theorem lm_pop : LMt mPop vPop := ⟨fun {ok ah n o u us ds k} hn e r q x => by
  unfold vPop at x
  split at x
  · obtain ⟨xs, rfl, r⟩ := r.lst
    simp only [Rs] at q
    subst q
    split at x
    · rename_i y hy
      obtain ⟨d, h1, h2⟩ := r.get hy
      unfold mPop
      simp only [e]
      rw [← r.len, h1]
      exact ⟨_, _, _, _, rfl, x, h2, r.dropLast⟩
    · exact x.elim
  · obtain ⟨xs, rfl, r⟩ := r.lst
    simp only [Rs, R] at q
    obtain ⟨d, es, rfl, rfl, rfl⟩ := q
    obtain ⟨x1, x⟩ := x
    split at x
    · rename_i j hj
      split at x
      · rename_i y hy
        obtain ⟨d, h1, h2⟩ := r.get hy
        unfold mPop
        simp only [e]
        rw [if_pos x1, ← r.len]
        simp only [hj, h1]
        exact ⟨_, _, _, _, rfl, x, h2, r.eraseIdx j⟩
      · exact x.elim
    · exact x.elim
  · exact x.elim⟩
def vInsert : VMt
  | .lst xs, [.int i, y], k => (xs.length < line ∧ 0 ≤ i ∧ i < 2 ^ 63) ∧ k .non (.lst (xs.take i.toNat ++ [y] ++ xs.drop i.toNat))
  | _, _, _ => False
theorem lm_insert : LMt mInsert vInsert := ⟨fun {ok ah n o u us ds k} hn e r q x => by
  unfold vInsert at x
  split at x
  · obtain ⟨xs, rfl, r⟩ := r.lst
    simp only [Rs, R] at q
    obtain ⟨d, es, rfl, rfl, d2, es2, rfl, q, rfl⟩ := q
    unfold mInsert
    simp only [e]
    rw [if_pos (by rw [← r.len]; exact x.1)]
    exact ⟨_, _, _, _, rfl, x.2, by simp only [R], ((r.take _).app (Rs.cons q Rs.nil)).app (r.drop _)⟩
  · exact x.elim⟩
/-- what a method of the variable i's list tells, and the variables then -/
def vMt (own : List Nat) (i : Nat) (pa : VE (List U)) (vf : VMt) (Γ : UEnv) (X : ExK) (k : U → UEnv → Prop) : Prop := match Γ[i]? with
  | some (some (.lst xs)) => pa (eraseU own Γ) X fun us => vf (.lst xs) us fun r u' => k r (Γ.set i (some u'))
  | _ => False
/-- .. of arguments that hold no lists -/
def vMtF (i : Nat) (pa : VE (List U)) (vf : VMt) (Γ : UEnv) (X : ExK) (k : U → UEnv → Prop) : Prop := match Γ[i]? with
  | some (some (.lst xs)) => pa Γ X fun us => U.flats us = true ∧ vf (.lst xs) us fun r u' => k r (Γ.set i (some u'))
  | _ => False
theorem mt_go {ok ok' : Nat → Prop} {b c i N : Nat} {Γ : UEnv} {env : HA.Env} {ah : AH} {S : SK} {ml : EM (List D)} {f : D → List D → AH → Res D} {vf : VMt} {k : U → UEnv → Prop} {g : D → AH → SRes} {xs : List U} (O : OkB ok b) (st : StR ok b own Γ env ah) (hE : eok E own = true) (hi : i ∈ own) (hM : LMt f vf) (hx : Γ[i]? = some (some (.lst xs))) {Q : List U → Prop}
    (hok : ∀ n, ok' n → ok n) (w : PR K ok' ah (N + cb c) RUs (fun a f => S.ex a f Γ) Q (ml env ah)) (hQ : ∀ us ds ah', Q us → Rs ok' ah' us ds → Rs (av ok env own) ah' us ds ∧ vf (.lst xs) us fun r u' => k r (Γ.set i (some u')))
    (hg : ∀ r d ah' Γ', k r Γ' → R (av ok env own) ah' r d → StR ok b own Γ' env ah' → K.at' (N + cb c) ah' → PSR K F L E ok b own env ah' own' (N + cb c) S (g d ah')) :
    PSR K F L E ok b own env ah own' (N + cb c) S ((eMt (eVar i) ml f env ah).thenS env g) := by
  obtain ⟨n, o, u, e1, e2, e3, e4, e5⟩ := st.ow i hi
  have hn : ¬ av ok env own n := fun a => a.2 i hi e1
  rw [hx] at e4
  cases e4
  obtain ⟨es, rfl, r⟩ := e5.lst
  have hl : isList (.ref n) ah = true := by unfold isList HA.listAt; simp only [e3]; rfl
  unfold eMt eVar
  rw [e1]
  simp only [Res.bind, hl, if_true]
  cases z : ml env ah with
  | stuck =>
    rw [z] at w
    exact w.elim
  | exn a fs ah1 =>
    rw [z] at w
    obtain ⟨f1, x, q, gr, kk⟩ := w
    refine ⟨f1, Γ, x, RX.mono hok Sta.refl q, fun ow ho => ?_, ⟨gr.len, fun n h3 hn => gr.same n h3 (Nat.lt_of_lt_of_le hn st.bl)⟩, kk⟩
    subst ho
    exact ⟨(st.grow O gr).drop O (eok_sub hE), PreS.ofGrow gr st.bl (eok_sub hE)⟩
  | ok ds ah1 =>
    rw [z] at w
    obtain ⟨us, hq, q, gr, kk⟩ := w
    obtain ⟨q', x⟩ := hQ us ds ah1 hq q
    have st1 := st.grow O gr
    have hlen := (List.getElem?_eq_some_iff.mp e3).1
    have e3' : ah1[n]? = some (.lst es) := by rw [gr.same n (O.three n (O.fresh n e2)) hlen]; exact e3
    have r' : Rs (av ok env own) ah1 xs es := Rs.mono (fun _ h => h) (gr.sta (st.okav O)) _ _ r
    obtain ⟨d, o', rr, u', f1, f2, f3, f4⟩ := hM.to hn e3' (show OR _ _ (.lst xs) (.lst es) from r') q' x
    simp only [f1]
    obtain ⟨s1, s2⟩ := st1.mut O hi e1 f4
    have stay : Sta (av ok env own) ah1 (ah1.set n o') := fun k ob a ek => by
      rw [List.getElem?_set_ne (fun z => hn (by rw [z]; exact a))]; exact ek
    exact (hg rr d _ _ f2 (R.mono (fun _ h => h) stay _ _ f3) s1 (K.set kk (O.three n (O.fresh n e2)))).after ((PreS.ofGrow gr st.bl (fun _ h => h)).trans s2)
def vMtS (own : List Nat) (i : Nat) (pa : VE (List U)) (vf : VMt) : VS := fun Γ S => vMt own i pa vf Γ (fun a f => S.ex a f Γ) fun _ Γ' => S.nx Γ'
def vMtSF (i : Nat) (pa : VE (List U)) (vf : VMt) : VS := fun Γ S => vMtF i pa vf Γ (fun a f => S.ex a f Γ) fun _ Γ' => S.nx Γ'
def vMtA (own : List Nat) (i : Nat) (pa : VE (List U)) (vf : VMt) (j : Nat) : VS := fun Γ S => vMt own i pa vf Γ (fun a f => S.ex a f Γ) fun r Γ' => S.nx (Γ'.set j (some r))
def vMtAF (i : Nat) (pa : VE (List U)) (vf : VMt) (j : Nat) : VS := fun Γ S => vMtF i pa vf Γ (fun a f => S.ex a f Γ) fun r Γ' => S.nx (Γ'.set j (some r))
theorem set_one {ok : Nat → Prop} {b j N : Nat} {Γ : UEnv} {env : HA.Env} {ah : AH} {S : SK} {u : U} {d : D} (st : StR ok b own Γ env ah) (hj : dis [j] own = true) (q : R (av ok env own) ah u d) (kk : K.at' N ah) (x : S.nx (Γ.set j (some u))) : PSR K F L E ok b own env ah own N S (.nx (env.set j (some d)) ah) := by
  have hj' : j ∉ own := dis_not hj (by simp)
  refine ⟨_, x, st.sets (bs := [(j, u)]) (cs := [(j, d)]) ⟨rfl, Rs.cons q Rs.nil⟩ (fun y hy => by simp only [List.mem_singleton] at hy; subst hy; exact hj'), ⟨Nat.le_refl _, fun _ _ _ _ => rfl, fun _ _ _ => rfl, fun k n hk ek _ => ⟨k, hk, ?_⟩⟩, kk⟩
  have hjk : j ≠ k := fun z => hj' (by rw [z]; exact hk)
  rw [← ek, List.getElem?_set_ne hjk]
theorem ls_mt {c i : Nat} {ml : EM (List D)} {pa : VE (List U)} {f : D → List D → AH → Res D} {vf : VMt} (h : LE K RUs c ml pa) (hM : LMt f vf) (hi : own.contains i = true := by rfl) (hE : eok E own = true := by rfl) : LS K F L E c own own (sExpr (eMt (eVar i) ml f)) (vMtS own i pa vf) := ⟨fun {ok b Γ env ah N S} O st kk l x => by
  have hi' : i ∈ own := by simpa using hi
  unfold vMtS vMt at x
  split at x
  · rename_i xs hx
    exact mt_go (k := fun _ Γ' => S.nx Γ') O st hE hi' hM hx (fun _ h => h.1) (h.to (st.okav O) st.clean kk l x) (fun us ds ah' hq r => ⟨r, hq⟩) fun r d ah' Γ' hk q st' kk' => ⟨Γ', hk, st', PreS.ofGrow Grow.refl st'.bl (fun _ h => h), kk'⟩
  · exact x.elim⟩
theorem ls_mtF {c i : Nat} {ml : EM (List D)} {pa : VE (List U)} {f : D → List D → AH → Res D} {vf : VMt} (h : LE K RUs c ml pa) (hM : LMt f vf) (hi : own.contains i = true := by rfl) (hE : eok E own = true := by rfl) : LS K F L E c own own (sExpr (eMt (eVar i) ml f)) (vMtSF i pa vf) := ⟨fun {ok b Γ env ah N S} O st kk l x => by
  have hi' : i ∈ own := by simpa using hi
  unfold vMtSF vMtF at x
  split at x
  · rename_i xs hx
    exact mt_go (k := fun _ Γ' => S.nx Γ') O st hE hi' hM hx (fun _ h => h) (h.to (st.okf O) (st.toEnv O) kk l x) (fun us ds ah' hq r => ⟨Rs.flat _ _ hq.1 r, hq.2⟩) fun r d ah' Γ' hk q st' kk' => ⟨Γ', hk, st', PreS.ofGrow Grow.refl st'.bl (fun _ h => h), kk'⟩
  · exact x.elim⟩
theorem ls_mtA {c i j : Nat} {ml : EM (List D)} {pa : VE (List U)} {f : D → List D → AH → Res D} {vf : VMt} (h : LE K RUs c ml pa) (hM : LMt f vf) (hi : own.contains i = true := by rfl) (hj : dis [j] own = true := by rfl) (hE : eok E own = true := by rfl) : LS K F L E c own own (sAsg (eMt (eVar i) ml f) (gSet j)) (vMtA own i pa vf j) := ⟨fun {ok b Γ env ah N S} O st kk l x => by
  have hi' : i ∈ own := by simpa using hi
  unfold vMtA vMt at x
  split at x
  · rename_i xs hx
    exact mt_go (k := fun r Γ' => S.nx (Γ'.set j (some r))) O st hE hi' hM hx (fun _ h => h.1) (h.to (st.okav O) st.clean kk l x) (fun us ds ah' hq r => ⟨r, hq⟩) fun r d ah' Γ' hk q st' kk' => set_one st' hj q kk' hk
  · exact x.elim⟩
theorem ls_mtAF {c i j : Nat} {ml : EM (List D)} {pa : VE (List U)} {f : D → List D → AH → Res D} {vf : VMt} (h : LE K RUs c ml pa) (hM : LMt f vf) (hi : own.contains i = true := by rfl) (hj : dis [j] own = true := by rfl) (hE : eok E own = true := by rfl) : LS K F L E c own own (sAsg (eMt (eVar i) ml f) (gSet j)) (vMtAF i pa vf j) := ⟨fun {ok b Γ env ah N S} O st kk l x => by
  have hi' : i ∈ own := by simpa using hi
  unfold vMtAF vMtF at x
  split at x
  · rename_i xs hx
    exact mt_go (k := fun r Γ' => S.nx (Γ'.set j (some r))) O st hE hi' hM hx (fun _ h => h) (h.to (st.okf O) (st.toEnv O) kk l x) (fun us ds ah' hq r => ⟨Rs.flat _ _ hq.1 r, hq.2⟩) fun r d ah' Γ' hk q st' kk' => set_one st' hj q kk' hk
  · exact x.elim⟩
/-! places of a list, keys of a dict -/
def vSetL (own : List Nat) (i : Nat) (pi pv : VE U) : VS := fun Γ S => pv (eraseU own Γ) (fun a f => S.ex a f Γ) fun v => pi Γ (fun a f => S.ex a f Γ) fun kd => match Γ[i]?, kd with
  | some (some (.lst xs)), .int q => match ixN xs.length q with
    | some j => S.nx (Γ.set i (some (.lst (xs.set j v))))
    | none => False
  | _, _ => False
def vSetLF (i : Nat) (pi pv : VE U) : VS := fun Γ S => pv Γ (fun a f => S.ex a f Γ) fun v => v.flat = true ∧ pi Γ (fun a f => S.ex a f Γ) fun kd => match Γ[i]?, kd with
  | some (some (.lst xs)), .int q => match ixN xs.length q with
    | some j => S.nx (Γ.set i (some (.lst (xs.set j v))))
    | none => False
  | _, _ => False
theorem setL_go {ok : Nat → Prop} {b c' i N : Nat} {Γ : UEnv} {env : HA.Env} {ah : AH} {S : SK} {mi : EM D} {pi : VE U} {v : U} {dv : D} (O : OkB ok b) (st : StR ok b own Γ env ah) (hE : eok E own = true) (hi : i ∈ own) (h : LE K RU c' mi pi) (q : R (av ok env own) ah v dv) (kk : K.at' N ah) (l : N + cb c' ≤ LIM)
    (x : pi Γ (fun a f => S.ex a f Γ) fun kd => match Γ[i]?, kd with
      | some (some (.lst xs)), .int q => match ixN xs.length q with
        | some j => S.nx (Γ.set i (some (.lst (xs.set j v))))
        | none => False
      | _, _ => False) :
    PSR K F L E ok b own env ah own (N + cb c') S ((eVar i env ah).thenS env fun d ah2 => (mi env ah2).thenS env fun kd ah3 => match d, kd with
      | .ref n, .int i => match ah3[n]? with
        | some (.lst xs) => match ixN xs.length i with
          | some j => .nx env (ah3.set n (.lst (xs.set j dv)))
          | none => .stuck
        | _ => .stuck
      | _, _ => .stuck) := by
  obtain ⟨n, o, u, e1, e2, e3, e4, e5⟩ := st.ow i hi
  unfold eVar
  rw [e1]
  simp only [Res.thenS]
  refine PSR.expr O st hE (fun _ h => h) (h.to (st.okf O) (st.toEnv O) kk l x) (Nat.le_refl _) fun a d ah' ka q2 g st' kk' => ?_
  rw [e4] at ka
  split at ka
  · rename_i xs p hx
    cases hx
    change R ok ah' _ d at q2
    simp only [R] at q2
    subst q2
    obtain ⟨es, rfl, r⟩ := e5.lst
    have hlen := (List.getElem?_eq_some_iff.mp e3).1
    have e3' : ah'[n]? = some (.lst es) := by rw [g.same n (O.three n (O.fresh n e2)) hlen]; exact e3
    have r' : Rs (av ok env own) ah' xs es := Rs.mono (fun _ h => h) (g.sta (st.okav O)) _ _ r
    split at ka
    · rename_i j hj
      simp only [e3']
      rw [← r'.len]
      simp only [hj]
      obtain ⟨s1, s2⟩ := st'.mut O hi e1 (u := .lst (xs.set j v)) (o := .lst (es.set j dv)) (show Rs _ _ _ _ from r'.set j (q.grow (st.okav O) g))
      exact ⟨_, ka, s1, s2, K.set kk' (O.three n (O.fresh n e2))⟩
    · exact ka.elim
  · exact ka.elim
theorem ls_setL {c c' i : Nat} {mi mv : EM D} {pi pv : VE U} (hv : LE K RU c mv pv) (h : LE K RU c' mi pi) (hi : own.contains i = true := by rfl) (hE : eok E own = true := by rfl) : LS K F L E (sq c c') own own (sSetL (eVar i) mi mv) (vSetL own i pi pv) := ⟨fun {ok b Γ env ah N S} O st kk l x => by
  have s := cb_sq c c'
  have hi' : i ∈ own := by simpa using hi
  refine PSR.expr (N := N + cb c) O st hE (fun _ h => h.1) (hv.to (st.okav O) st.clean kk (by omega) x) (by omega) fun v dv ah' ka q g st' kk' => ?_
  exact (setL_go O st' hE hi' h q kk' (by omega) ka).le (by omega)⟩
theorem ls_setLF {c c' i : Nat} {mi mv : EM D} {pi pv : VE U} (hv : LE K RU c mv pv) (h : LE K RU c' mi pi) (hi : own.contains i = true := by rfl) (hE : eok E own = true := by rfl) : LS K F L E (sq c c') own own (sSetL (eVar i) mi mv) (vSetLF i pi pv) := ⟨fun {ok b Γ env ah N S} O st kk l x => by
  have s := cb_sq c c'
  have hi' : i ∈ own := by simpa using hi
  refine PSR.expr (N := N + cb c) O st hE (fun _ h => h) (hv.to (st.okf O) (st.toEnv O) kk (by omega) x) (by omega) fun v dv ah' ka q g st' kk' => ?_
  exact (setL_go O st' hE hi' h (R.flat _ _ ka.1 q) kk' (by omega) ka.2).le (by omega)⟩
def uPut (ks : List Key) (us : List U) (kk : Key) (v : U) : U := if (ks.any fun z => decide (z = kk)) = true then .dK ks ((ks.zip us).map fun p => if p.1 = kk then v else p.2) else .dK (ks ++ [kk]) (us ++ [v])
def vPut (own : List Nat) (i : Nat) (pi pv : VE U) : VS := fun Γ S => pv (eraseU own Γ) (fun a f => S.ex a f Γ) fun v => pi Γ (fun a f => S.ex a f Γ) fun kd => match Γ[i]?, uKey kd with
  | some (some (.dK ks us)), some kk => ks.length < line ∧ S.nx (Γ.set i (some (uPut ks us kk v)))
  | _, _ => False
theorem put_Rs {ok : Nat → Prop} {ah : AH} {kk : Key} {v : U} {dv : D} (q : R ok ah v dv) : ∀ (us : List U) (kvs : List (Key × D)), Rs ok ah us (kvs.map (·.2)) → Rs ok ah (((kvs.map (·.1)).zip us).map fun p => if p.1 = kk then v else p.2) ((kvs.map fun kv => if kv.1 = kk then (kv.1, dv) else kv).map (·.2))
  | [], kvs, r => by
    simp only [Rs, List.map_eq_nil_iff] at r
    subst r
    exact Rs.nil
  | u :: us, [], r => by simp [Rs] at r
  | u :: us, kv :: kvs, r => by
    simp only [List.map_cons, Rs, List.cons.injEq] at r
    obtain ⟨d, es, ⟨rfl, rfl⟩, q1, r⟩ := r
    simp only [List.map_cons, List.zip_cons_cons]
    refine Rs.cons ?_ (put_Rs q us kvs r)
    by_cases h : kv.1 = kk <;> simp [h, q, q1]
theorem ls_put {c c' i : Nat} {mi mv : EM D} {pi pv : VE U} (hv : LE K RU c mv pv) (h : LE K RU c' mi pi) (hi : own.contains i = true := by rfl) (hE : eok E own = true := by rfl) : LS K F L E (sq c c') own own (sPut (eVar i) mi mv) (vPut own i pi pv) := ⟨fun {ok b Γ env ah N S} O st kk l x => by
  have s := cb_sq c c'
  have hi' : i ∈ own := by simpa using hi
  refine PSR.expr (N := N + cb c) O st hE (fun _ h => h.1) (hv.to (st.okav O) st.clean kk (by omega) x) (by omega) fun v dv ah' ka q g st' kk' => ?_
  obtain ⟨n, o, u, e1, e2, e3, e4, e5⟩ := st'.ow i hi'
  unfold eVar
  rw [e1]
  simp only [Res.thenS]
  refine PSR.expr (N := N + cb c + cb c') O st' hE (fun _ h => h) (h.to (st'.okf O) (st'.toEnv O) kk' (by omega) ka) (by omega) fun a d ah2 ka q2 g2 st2 kk2 => ?_
  rw [e4] at ka
  split at ka
  · rename_i ks us key hx hk
    cases hx
    change R ok ah2 _ d at q2
    rw [uKey_d q2 hk]
    cases o with
    | dK kvs =>
      obtain ⟨e6, r⟩ := e5
      have hlen := (List.getElem?_eq_some_iff.mp e3).1
      have e3' : ah2[n]? = some (.dK kvs) := by rw [g2.same n (O.three n (O.fresh n e2)) hlen]; exact e3
      have r' : Rs (av ok env own) ah2 us (kvs.map (·.2)) := Rs.mono (fun _ h => h) (g2.sta (st'.okav O)) _ _ r
      have q' := q.grow (st'.okav O) g2
      simp only [e3']
      have hl : kvs.length < line := by have := ka.1; rw [← e6, List.length_map] at this; exact this
      rw [if_pos hl]
      have hor : OR (av ok env own) ah2 (uPut ks us key v) (.dK (putD kvs key dv)) := by
        unfold uPut putD
        rw [← e6, List.any_map]
        have ea : kvs.any ((fun z => decide (z = key)) ∘ fun x => x.1) = kvs.any fun kv => decide (kv.1 = key) := rfl
        rw [ea]
        split
        · refine ⟨?_, put_Rs q' us kvs r'⟩
          rw [List.map_map]
          refine List.map_congr_left fun kv _ => ?_
          show (if kv.1 = key then (kv.1, dv) else kv).1 = kv.1
          split <;> rfl
        · exact ⟨by simp, by rw [List.map_append]; exact r'.app (Rs.cons q' Rs.nil)⟩
      obtain ⟨s1, s2⟩ := st2.mut O hi' e1 hor
      exact ⟨_, ka.2, s1, s2, K.mono (K.set kk2 (O.three n (O.fresh n e2))) (by omega)⟩
    | _ => exact e5.elim
  · exact ka.elim⟩
/-! new dicts -/
def vDnew : VE U := fun _ _ k => k (.dK [] [])
theorem ln_dnew : LN (K := K) 0 eDnew vDnew := ⟨fun {ok Γ env ah N X k} o e kk l x => by
  unfold eDnew
  exact ⟨_, _, _, x, rfl, Nat.le_refl _, by simp, show OR _ _ (.dK [] []) (.dK []) from ⟨rfl, Rs.nil⟩, Grow.app, K.app _ kk⟩⟩
theorem ln_le {c : Nat} {m : EM D} {p : VE U} (h : LN (K := K) c m p) : LE K RU c m p := ⟨fun {ok Γ env ah N X k} o e kk l x => by
  have w := h.to o e kk l x
  cases z : m env ah with
  | ok d ah1 =>
    rw [z] at w
    obtain ⟨u, n, ob, h1, rfl, h3, h4, h5, h6, h7⟩ := w
    exact ⟨u, h1, (h5.mono (fun _ a => a.1) Sta.refl).to (o.fresh n h3) h4, h6, h7⟩
  | exn a fs ah1 => rw [z] at w; exact w
  | stuck => rw [z] at w; exact w⟩
/-! calls -/
def vFn (n ar : Nat) (pb : VS) : List U → ExK → (U → Prop) → Prop := fun us X k => us.length = ar ∧ pb (us.map some ++ List.replicate (n - us.length) none) ⟨fun _ => k .non, k, fun _ => False, fun _ => False, fun a f _ => X a f⟩
abbrev LF (K : Dks) (c : Nat) (m : List D → AH → Res D) (p : List U → ExK → (U → Prop) → Prop) : Prop := LO1 K RUs RU c m p
/-- .. that tell a new object -/
structure LFN (K : Dks) (c : Nat) (m : List D → AH → Res D) (p : List U → ExK → (U → Prop) → Prop) : Prop where
  to : ∀ {ok : Nat → Prop} {ah : AH} {N : Nat} {X : ExK} {k : U → Prop} {us : List U} {ds : List D}, OkF ok ah → Rs ok ah us ds → K.at' N ah → N + cb c ≤ LIM → p us X k → match m ds ah with
    | .ok d ah' => ∃ u n o, k u ∧ d = .ref n ∧ ah.length ≤ n ∧ ah'[n]? = some o ∧ OR (fun m => ok m ∧ m ≠ n) ah' u o ∧ Grow ah ah' ∧ K.at' (N + cb c) ah'
    | .exn a fs ah' => ∃ f, X a f ∧ RX ok ah' f fs ∧ Grow ah ah' ∧ K.at' (N + cb c) ah'
    | .stuck => False
theorem start {ok : Nat → Prop} {ah : AH} {us : List U} {ds : List D} (r : Rs ok ah us ds) (n : Nat) : StR ok ah.length [] (us.map some ++ List.replicate n none) (ds.map some ++ List.replicate n none) ah :=
  have sh : ∀ (i : Nat) (u : U), i ∉ [] → (us.map some ++ List.replicate n none)[i]? = some (some u) → ∃ d, (ds.map some ++ List.replicate n none)[i]? = some (some d) ∧ R (av ok (ds.map some ++ List.replicate n none) []) ah u d := fun i u _ e => by
    by_cases hi : i < us.length
    · rw [List.getElem?_append_left (by simpa using hi), List.getElem?_map] at e
      cases z : us[i]? with
      | none => rw [z] at e; cases e
      | some w =>
        rw [z] at e
        cases e
        obtain ⟨d, h1, h2⟩ := r.get z
        refine ⟨d, ?_, R.mono (fun n h => ⟨h, fun i hi => absurd hi List.not_mem_nil⟩) Sta.refl _ _ h2⟩
        rw [List.getElem?_append_left (by rw [List.length_map, ← r.len]; exact hi), List.getElem?_map, h1]
        rfl
    · rw [List.getElem?_append_right (by simpa using hi), List.getElem?_replicate] at e
      split at e
      · cases e
      · cases e
  ⟨by simp [r.len], Nat.le_refl _, sh, fun i hi => absurd hi List.not_mem_nil, fun i j n hi => absurd hi List.not_mem_nil⟩
theorem lf_fn {c n ar : Nat} {mb : SM} {pb : VS} (h : LS K false [] none c [] [] mb pb) : LF K c (fnR n ar mb) (vFn n ar pb) := ⟨fun {ok ah N X k us ds} o q kk l x => by
  obtain ⟨hl, x⟩ := x
  have q' : Rs ok ah us ds := q
  have w := h.to (b := ah.length) ⟨o.three, o.fresh⟩ (start q' (n - us.length)) kk l x
  unfold fnR
  rw [if_pos (by rw [← q'.len]; exact hl), ← q'.len]
  cases z : mb (ds.map some ++ List.replicate (n - us.length) none) ah with
  | nx e ah1 => rw [z] at w; obtain ⟨Γ', y1, y2, y3, y4⟩ := w; exact ⟨.non, y1, (show R ok ah1 .non .non by simp only [R]), ⟨y3.len, y3.old⟩, y4⟩
  | rt d ah1 => rw [z] at w; obtain ⟨u, y1, y2, y3, y4⟩ := w; exact ⟨u, y1, y2, ⟨y3.len, y3.old⟩, y4⟩
  | bk e ah1 => rw [z] at w; obtain ⟨Γ', y1, _⟩ := w; exact y1.elim
  | ct e ah1 => rw [z] at w; obtain ⟨Γ', y1, _⟩ := w; exact y1.elim
  | exn a fs e ah1 => rw [z] at w; obtain ⟨f, Γ', y1, y2, _, y4, y5⟩ := w; exact ⟨f, y1, y2, ⟨y4.len, y4.old⟩, y5⟩
  | stuck => rw [z] at w; exact w.elim⟩
def vFnN (n ar : Nat) (pb : VS) : List U → ExK → (U → Prop) → Prop := fun us X k => us.length = ar ∧ pb (us.map some ++ List.replicate (n - us.length) none) ⟨fun _ => False, k, fun _ => False, fun _ => False, fun a f _ => X a f⟩
theorem lfn_fn {c n ar : Nat} {mb : SM} {pb : VS} (h : LS K true [] none c [] [] mb pb) : LFN K c (fnR n ar mb) (vFnN n ar pb) := ⟨fun {ok ah N X k us ds} o q kk l x => by
  obtain ⟨hl, x⟩ := x
  have q' : Rs ok ah us ds := q
  have w := h.to (b := ah.length) (S := ⟨fun _ => False, k, fun _ => False, fun _ => False, fun a f _ => X a f⟩) ⟨o.three, o.fresh⟩ (start q' (n - us.length)) kk l x
  unfold fnR
  rw [if_pos (by rw [← q'.len]; exact hl), ← q'.len]
  cases z : mb (ds.map some ++ List.replicate (n - us.length) none) ah with
  | nx e ah1 => rw [z] at w; obtain ⟨Γ', y1, _⟩ := w; exact y1.elim
  | rt d ah1 => rw [z] at w; obtain ⟨u, y1, ⟨n, ob, e1, e2, e3, e4⟩, y3, y4⟩ := w; exact ⟨u, n, ob, y1, e1, e2, e3, e4, ⟨y3.len, y3.old⟩, y4⟩
  | bk e ah1 => rw [z] at w; obtain ⟨Γ', y1, _⟩ := w; exact y1.elim
  | ct e ah1 => rw [z] at w; obtain ⟨Γ', y1, _⟩ := w; exact y1.elim
  | exn a fs e ah1 => rw [z] at w; obtain ⟨f, Γ', y1, y2, _, y4, y5⟩ := w; exact ⟨f, y1, y2, ⟨y4.len, y4.old⟩, y5⟩
  | stuck => rw [z] at w; exact w.elim⟩
theorem lfn_lf {c : Nat} {m : List D → AH → Res D} {p : List U → ExK → (U → Prop) → Prop} (h : LFN K c m p) : LF K c m p := ⟨fun {ok ah N X k us ds} o q kk l x => by
  have w := h.to o q kk l x
  cases z : m ds ah with
  | ok d ah1 =>
    rw [z] at w
    obtain ⟨u, n, ob, h1, rfl, h3, h4, h5, h6, h7⟩ := w
    exact ⟨u, h1, (h5.mono (fun _ a => a.1) Sta.refl).to (o.fresh n h3) h4, h6, h7⟩
  | exn a fs ah1 => rw [z] at w; exact w
  | stuck => rw [z] at w; exact w⟩
theorem LFN.weak {c c' : Nat} {m : List D → AH → Res D} {p : List U → ExK → (U → Prop) → Prop} (h : LFN K c m p) (hc : Nat.ble c c' = true := by rfl) : LFN K c' m p := ⟨fun {ok ah N X k us ds} o q kk l x => by
  have hm := cb_mono (Nat.le_of_ble_eq_true hc)
  have w := h.to o q kk (by omega) x
  cases z : m ds ah with
  | ok d ah1 =>
    rw [z] at w
    obtain ⟨u, n, ob, h1, h2, h3, h4, h5, h6, h7⟩ := w
    exact ⟨u, n, ob, h1, h2, h3, h4, h5, h6, K.mono h7 (by omega)⟩
  | exn a fs ah1 => rw [z] at w; obtain ⟨f, h1, h2, h3, h4⟩ := w; exact ⟨f, h1, h2, h3, K.mono h4 (by omega)⟩
  | stuck => rw [z] at w; exact w⟩
theorem LO1.weak {α β γ δ : Type} {Q : Rl α β} {Q' : Rl γ δ} {c c' : Nat} {f : β → AH → Res δ} {p : α → ExK → (γ → Prop) → Prop} (h : LO1 K Q Q' c f p) (hc : Nat.ble c c' = true := by rfl) : LO1 K Q Q' c' f p := ⟨fun o q kk l x =>
  have := cb_mono (Nat.le_of_ble_eq_true hc)
  (h.to o q kk (by omega) x).le (by omega)⟩
theorem ln_call {c c' : Nat} {ml : EM (List D)} {pa : VE (List U)} {m : List D → AH → Res D} {p : List U → ExK → (U → Prop) → Prop} (ha : LE K RUs c ml pa) (h : LFN K c' m p) : LN (K := K) (sq c c') (e1 ml m) (v1 pa p) := ⟨fun {ok Γ env ah N X k} o e kk l x => by
  have s := cb_sq c c'
  have w := ha.to o e kk (by omega) x
  unfold e1
  cases z : ml env ah with
  | ok ds ah1 =>
    rw [z] at w
    obtain ⟨us, h1, h2, h3, h4⟩ := w
    have w2 := h.to (o.grow h3) h2 h4 (by omega) h1
    simp only [Res.bind]
    cases z2 : m ds ah1 with
    | ok d ah2 =>
      rw [z2] at w2
      obtain ⟨u, n, ob, f1, f2, f3, f4, f5, f6, f7⟩ := w2
      exact ⟨u, n, ob, f1, f2, Nat.le_trans h3.len f3, f4, f5, h3.trans f6, K.mono f7 (by omega)⟩
    | exn a fs ah2 => rw [z2] at w2; obtain ⟨f, f1, f2, f3, f4⟩ := w2; exact ⟨f, f1, f2, h3.trans f3, K.mono f4 (by omega)⟩
    | stuck => rw [z2] at w2; exact w2
  | exn a fs ah1 => rw [z] at w; obtain ⟨f, f1, f2, f3, f4⟩ := w; exact ⟨f, f1, f2, f3, K.mono f4 (by omega)⟩
  | stuck => rw [z] at w; exact w⟩
theorem pick_Rs {ok : Nat → Prop} {ah : AH} {us : List U} {ds : List D} (r : Rs ok ah us ds) : ∀ π : List Nat, Rs ok ah (pick π [] us) (pick π [] ds)
  | [] => Rs.nil
  | i :: π => by
    unfold pick
    simp only [List.nil_append, List.filterMap_cons]
    have ih := pick_Rs r π
    unfold pick at ih
    simp only [List.nil_append] at ih
    cases z : us[i]? with
    | none =>
      have : ds[i]? = none := by rw [List.getElem?_eq_none_iff] at z ⊢; rw [← r.len]; exact z
      rw [this]
      exact ih
    | some u =>
      obtain ⟨d, h1, h2⟩ := r.get z
      rw [h1]
      exact Rs.cons h2 ih
theorem lf_pick {c : Nat} {m : List D → AH → Res D} {p : List U → ExK → (U → Prop) → Prop} (π : List Nat) (h : LF K c m p) : LF K c (fun ds => m (pick π [] ds)) (fun us => p (pick π [] us)) := ⟨fun o q kk l x => h.to o (pick_Rs q π) kk l x⟩
theorem le_call0 {c : Nat} {m : List D → AH → Res D} {p : List U → ExK → (U → Prop) → Prop} (h : LF K c m p) : LE K RU c (fun _ ah => m [] ah) (fun _ X k => p [] X k) := ⟨fun {ok Γ env ah N X k} o e kk l x => h.to (a := []) (b := []) o (show Rs ok ah [] [] from Rs.nil) kk l x⟩
theorem lf_stuck {c : Nat} : LF K c (fun _ _ => .stuck) (fun _ _ _ => False) := ⟨fun o q kk l x => x.elim⟩
end
end HV

/-! V8: the decks, and the law as a whole. -/
namespace HV
open PySem PySem.Spec PyProof.Rows L2 HA
theorem lg_mul {i j : Int} {p q : Nat} (h1 : i.natAbs < 2 ^ p) (h2 : j.natAbs < 2 ^ q) : (i * j).natAbs < 2 ^ (p + q) := by
  rw [Int.natAbs_mul, Nat.pow_add]
  exact Nat.mul_lt_mul'' h1 h2
theorem lg_add {i j : Int} {p : Nat} (h1 : i.natAbs < 2 ^ p) (h2 : j.natAbs < 2 ^ p) : (i + j).natAbs < 2 ^ (p + 1) := by
  rw [Nat.pow_succ]
  have := Int.natAbs_add_le i j
  omega
theorem lg_mono {i : Int} {p q : Nat} (h1 : i.natAbs < 2 ^ p) (h : p ≤ q) : i.natAbs < 2 ^ q := Nat.lt_of_lt_of_le h1 (Nat.pow_le_pow_right (by decide) h)
theorem mulOk_lg {i j : Int} {p q : Nat} (h1 : i.natAbs < 2 ^ p) (h2 : j.natAbs < 2 ^ q) (h : Nat.ble (p + q) 900000 = true) (hp : 0 < p) (hq : 0 < q) : mulOk i j = true := by
  unfold mulOk
  have a := log2_lt hp h1
  have b := log2_lt hq h2
  have c := Nat.le_of_ble_eq_true h
  rw [decide_eq_true_eq]
  omega
theorem oMul_lg {i j : Int} {p q : Nat} (ah : AH) (h1 : i.natAbs < 2 ^ p) (h2 : j.natAbs < 2 ^ q) (h : Nat.ble (p + q) 900000 = true := by rfl) (hp : 0 < p := by decide) (hq : 0 < q := by decide) : oMul (.int i) (.int j) ah = .ok (.int (i * j)) ah := by
  unfold oMul
  simp only
  rw [if_pos (mulOk_lg h1 h2 h hp hq)]
theorem small_lg {i : Int} (h0 : 0 ≤ i) (h : i < 2147483648) : i.natAbs < 2 ^ 31 := by omega
theorem draw_tailB2 {S : List D} {rest : AH} {cells : List Int} {s a b u : Int} (h1 : 0 < b) (h3 : 0 ≤ a) (h4 : a.natAbs < 2 ^ 6000) :
    b_tailB [some (.ref 2), some (.int b), some (.int s), none] (hB S ⟨cells, a, u⟩ rest) = .rt (.int (mixB s a b)) (hB S ⟨cells, a, u⟩ rest) := by
  unfold mixB b_tailB
  have ha : oIx (.ref 2) (.int 2) (hB S ⟨cells, a, u⟩ rest) = .ok (.int a) (hB S ⟨cells, a, u⟩ rest) := hB_at
  generalize hB S ⟨cells, a, u⟩ rest = ah at ha ⊢
  generalize hn1 : (s % 2147483629 + 7919 * a * a + 1) * 48271 % 2147483647 = n1
  have b1 : 0 ≤ s % 2147483629 := Int.emod_nonneg _ (by decide)
  have b2 : s % 2147483629 < 2147483629 := Int.emod_lt_of_pos _ (by decide)
  have b3 : 0 ≤ n1 := by rw [← hn1]; exact Int.emod_nonneg _ (by decide)
  have b4 : n1 < 2147483647 := by rw [← hn1]; exact Int.emod_lt_of_pos _ (by decide)
  generalize hn2 : (n1 * n1 + 69621 * n1 + a) % 2147483587 = n2
  have b5 : 0 ≤ n2 := by rw [← hn2]; exact Int.emod_nonneg _ (by decide)
  have b6 : n2 < 2147483587 := by rw [← hn2]; exact Int.emod_lt_of_pos _ (by decide)
  have c1 : (7919 : Int).natAbs < 2 ^ 13 := by decide
  have d1 := lg_mul c1 h4
  have d2 := lg_mul d1 h4
  have d3 : (s % 2147483629 + 7919 * a * a + 1).natAbs < 2 ^ (13 + 6000 + 6000 + 1 + 1) := lg_add (lg_add (lg_mono (small_lg b1 (by omega)) (by decide)) d2) (lg_mono (p := 1) (by decide) (by decide))
  have m1 : oMul (.int 7919) (.int a) ah = .ok (.int (7919 * a)) ah := oMul_lg ah c1 h4
  have m2 : oMul (.int (7919 * a)) (.int a) ah = .ok (.int (7919 * a * a)) ah := oMul_lg ah d1 h4
  have m3 : oMul (.int (s % 2147483629 + 7919 * a * a + 1)) (.int 48271) ah = .ok (.int ((s % 2147483629 + 7919 * a * a + 1) * 48271)) ah := oMul_lg (q := 16) ah d3 (by decide)
  have m4 : oMul (.int n1) (.int n1) ah = .ok (.int (n1 * n1)) ah := oMul_lg ah (small_lg b3 (by omega)) (small_lg b3 (by omega))
  have m5 : oMul (.int 69621) (.int n1) ah = .ok (.int (69621 * n1)) ah := oMul_lg (p := 17) ah (by decide) (small_lg b3 (by omega))
  have m6 : oMul (.int n2) (.int (n2 / 5 + 39373)) ah = .ok (.int (n2 * (n2 / 5 + 39373))) ah := oMul_lg ah (small_lg b5 (by omega)) (small_lg (by omega) (by omega))
  have q1 : ∀ i : Int, oMod (.int i) (.int 2147483629) ah = .ok (.int (i % 2147483629)) ah := fun i => oMod_int ah (by decide)
  have q2 : ∀ i : Int, oMod (.int i) (.int 2147483647) ah = .ok (.int (i % 2147483647)) ah := fun i => oMod_int ah (by decide)
  have q3 : ∀ i : Int, oMod (.int i) (.int 2147483587) ah = .ok (.int (i % 2147483587)) ah := fun i => oMod_int ah (by decide)
  have q4 : ∀ i : Int, oMod (.int i) (.int 2147483579) ah = .ok (.int (i % 2147483579)) ah := fun i => oMod_int ah (by decide)
  have q5 : ∀ i : Int, oMod (.int i) (.int b) ah = .ok (.int (i % b)) ah := fun i => oMod_int ah h1
  have q6 : ∀ i : Int, oFdiv (.int i) (.int 64) ah = .ok (.int (i / 64)) ah := fun i => oFdiv_int ah (by decide) (by decide)
  have q7 : ∀ i : Int, oFdiv (.int i) (.int 5) ah = .ok (.int (i / 5)) ah := fun i => oFdiv_int ah (by decide) (by decide)
  simp [ha, q1, m1, m2, m3, q2, hn1, m4, m5, q3, hn2, q7, m6, q4, q6, q5]
theorem at_lg {a : Int} {n : Nat} (h0 : 0 ≤ a) (h : a ≤ n) (hn : n < 2 ^ 5999) : (a + 1).natAbs < 2 ^ 6000 := by
  have : (2 : Nat) ^ 6000 = 2 ^ 5999 * 2 := Nat.pow_succ (n := 2) (m := 5999)
  rw [this]
  generalize (2 : Nat) ^ 5999 = M at hn ⊢
  omega
theorem drawB2 {n : Nat} {d : Dk} {b : Int} (h : DOk n d) (hn : n < 2 ^ 5999) (h1 : 0 < b) (h2 : b < 2 ^ 1000) : ∃ (v : Nat) (d' : Dk), (∀ S rest, m_drawB [.ref 2, .int b] (hB S d rest) = .ok (.int v) (hB S d' rest)) ∧ (v : Int) < b ∧ DOk (n + 1) d' := by
  have p18 : ∀ ah, oPow (.int 10) (.int 18) ah = .ok (.int (10 ^ 18)) ah := fun ah => oPow_int ah (by decide)
  obtain ⟨len, lo, hi⟩ := h
  obtain ⟨cells, a, u⟩ := d
  dsimp only at len lo hi
  have la := at_lg lo hi hn
  have ci : ∀ (neg : Bool) (cs : List Int) (ah : AH), lNil neg (cs.map D.int) ah = .ok (if cs = [] then !neg else neg) ah := lNil_ints
  have nat : ∀ i : Int, 0 ≤ i → ((i.toNat : Nat) : Int) = i := fun i h => Int.toNat_of_nonneg h
  rcases List.eq_nil_or_concat cells with rfl | ⟨r, c, rfl⟩
  · have mi := mixB_in (s := u) (a := a + 1) h1
    refine ⟨(mixB u (a + 1) b).toNat, ⟨[], a + 1, u⟩, fun S rest => ?_, by rw [nat _ mi.1]; exact mi.2, by show (0:Nat) ≤ 64; decide, by show 0 ≤ a + 1; omega, by show a + 1 ≤ ((n + 1 : Nat) : Int); omega⟩
    have tl := draw_tailB2 (S := S) (rest := rest) (cells := []) (s := u) (a := a + 1) (u := u) h1 (by omega) la
    unfold m_drawB b_drawB
    rw [fnM_2, sSeq_def, hB_put (v := a + 1) (by simp [hB_at]) (by simp), nat _ mi.1]
    simp [hB_sum, hB_cells, hB_list, ci, tl, hB_fin, -List.map_nil]
  · have md : ∀ ah, oMod (.int c) (.int b) ah = .ok (.int (c % b)) ah := fun ah => oMod_int ah h1
    have fd : ∀ ah, oFdiv (.int c) (.int b) ah = .ok (.int (c / b)) ah := fun ah => oFdiv_int ah h1 h2
    have nn : ¬ (r ++ [c] = []) := by simp
    rw [List.concat_eq_append] at len ⊢
    rw [List.length_append, List.length_singleton] at len
    by_cases hc : (1000000000000000000 : Int) ≤ c
    · have m0 := Int.emod_nonneg c (show b ≠ 0 by omega)
      have m1 := Int.emod_lt_of_pos c h1
      refine ⟨(c % b).toNat, ⟨r ++ [c / b], a + 1, u⟩, fun S rest => ?_, by rw [nat _ m0]; exact m1, by show (r ++ [c / b]).length ≤ 64; simp; omega, by show 0 ≤ a + 1; omega, by show a + 1 ≤ ((n + 1 : Nat) : Int); omega⟩
      have ap : ∀ v, mAppend (.ref 1) [.int v] (hB S ⟨r, a + 1, u⟩ rest) = .ok .non (hB S ⟨r ++ [v], a + 1, u⟩ rest) := fun v => hB_app1 (d := ⟨r, a + 1, u⟩) (by show r.length < 16777216; omega)
      unfold m_drawB b_drawB
      rw [fnM_2, sSeq_def, hB_put (v := a + 1) (by simp [hB_at]) (by simp), nat _ m0]
      simp [hB_sum, hB_cells, hB_list, ci, hB_isList, hB_pop, p18, hc, fd, md, ap, hB_fin, nn, -List.map_append, -List.map_cons]
    · have mi := mixB_in (s := c) (a := a + 1) h1
      refine ⟨(mixB c (a + 1) b).toNat, ⟨r, a + 1, u⟩, fun S rest => ?_, by rw [nat _ mi.1]; exact mi.2, by show r.length ≤ 64; omega, by show 0 ≤ a + 1; omega, by show a + 1 ≤ ((n + 1 : Nat) : Int); omega⟩
      have tl := draw_tailB2 (S := S) (rest := rest) (cells := r) (s := c) (a := a + 1) (u := u) h1 (by omega) la
      unfold m_drawB b_drawB
      rw [fnM_2, sSeq_def, hB_put (v := a + 1) (by simp [hB_at]) (by simp), nat _ mi.1]
      simp [hB_sum, hB_cells, hB_list, ci, tl, hB_isList, hB_pop, p18, hc, hB_fin, nn, -List.map_append, -List.map_cons]
theorem draw_tailA2 {s a b : Int} {x0 x3 : Option D} {ah : AH} (h1 : 0 < b) (h3 : 0 ≤ a) (h4 : a.natAbs < 2 ^ 6000) :
    b_tailA [x0, some (.int b), some (.int a), x3, some (.int s), none] ah = .rt (.int (mixA s a b)) ah := by
  unfold mixA b_tailA
  generalize hn1 : (s % 2147483647 * 48271 + 69621 * a * a + 7919) % 2147483629 = n1
  have b1 : 0 ≤ s % 2147483647 := Int.emod_nonneg _ (by decide)
  have b2 : s % 2147483647 < 2147483647 := Int.emod_lt_of_pos _ (by decide)
  have b3 : 0 ≤ n1 := by rw [← hn1]; exact Int.emod_nonneg _ (by decide)
  have b4 : n1 < 2147483629 := by rw [← hn1]; exact Int.emod_lt_of_pos _ (by decide)
  generalize hn2 : n1 * n1 % 2147483587 = n2
  have b5 : 0 ≤ n2 := by rw [← hn2]; exact Int.emod_nonneg _ (by decide)
  have b6 : n2 < 2147483587 := by rw [← hn2]; exact Int.emod_lt_of_pos _ (by decide)
  have c1 : (69621 : Int).natAbs < 2 ^ 17 := by decide
  have d1 := lg_mul c1 h4
  have m1 : oMul (.int (s % 2147483647)) (.int 48271) ah = .ok (.int (s % 2147483647 * 48271)) ah := oMul_lg (q := 16) ah (small_lg b1 (by omega)) (by decide)
  have m2 : oMul (.int 69621) (.int a) ah = .ok (.int (69621 * a)) ah := oMul_lg ah c1 h4
  have m3 : oMul (.int (69621 * a)) (.int a) ah = .ok (.int (69621 * a * a)) ah := oMul_lg ah d1 h4
  have m4 : oMul (.int n1) (.int n1) ah = .ok (.int (n1 * n1)) ah := oMul_lg ah (small_lg b3 (by omega)) (small_lg b3 (by omega))
  have m5 : oMul (.int n2) (.int (n2 + 39373)) ah = .ok (.int (n2 * (n2 + 39373))) ah := oMul_lg (q := 32) ah (small_lg b5 (by omega)) (by omega)
  have q1 : ∀ i : Int, oMod (.int i) (.int 2147483647) ah = .ok (.int (i % 2147483647)) ah := fun i => oMod_int ah (by decide)
  have q2 : ∀ i : Int, oMod (.int i) (.int 2147483629) ah = .ok (.int (i % 2147483629)) ah := fun i => oMod_int ah (by decide)
  have q3 : ∀ i : Int, oMod (.int i) (.int 2147483587) ah = .ok (.int (i % 2147483587)) ah := fun i => oMod_int ah (by decide)
  have q4 : ∀ i : Int, oMod (.int i) (.int 2147483563) ah = .ok (.int (i % 2147483563)) ah := fun i => oMod_int ah (by decide)
  have q5 : ∀ i : Int, oMod (.int i) (.int b) ah = .ok (.int (i % b)) ah := fun i => oMod_int ah h1
  have q6 : ∀ i : Int, oFdiv (.int i) (.int 64) ah = .ok (.int (i / 64)) ah := fun i => oFdiv_int ah (by decide) (by decide)
  simp [q1, m1, m2, m3, q2, hn1, m4, q3, hn2, m5, q4, q6, q5]
theorem drawA2 {n : Nat} {d : Dk} {b : Int} (h : DOk n d) (hn : n < 2 ^ 5999) (h1 : 0 < b) (h2 : b < 2 ^ 1000) : ∃ (v : Nat) (d' : Dk), (∀ S rest, m_drawA [.ref 2, .int b] (hA S d rest) = .ok (.int v) (hA S d' rest)) ∧ (v : Int) < b ∧ DOk (n + 1) d' := by
  have hi' := Dk.drawA_in (d := d) h1
  have eat := Dk.drawA_at (d := d) (b := b)
  have p18 : ∀ ah, oPow (.int 10) (.int 18) ah = .ok (.int (10 ^ 18)) ah := fun ah => oPow_int ah (by decide)
  obtain ⟨len, lo, hi⟩ := h
  refine ⟨(d.drawA b).1.toNat, (d.drawA b).2, fun S rest => ?_, by rw [Int.toNat_of_nonneg hi'.1]; exact hi'.2, ?_, by rw [eat]; omega, by rw [eat]; omega⟩
  · rw [Int.toNat_of_nonneg hi'.1]
    obtain ⟨cells, a, s⟩ := d
    dsimp only at lo hi len
    have la := at_lg lo hi hn
    unfold m_drawA b_drawA
    rw [fnM_2, sSeq_def, hA_put (v := a + 1) (by simp [hA_at]) (by simp)]
    have tl := fun (s : Int) (x0 x3 : Option D) (ah : AH) => draw_tailA2 (s := s) (x0 := x0) (x3 := x3) (ah := ah) h1 (a := a + 1) (by omega) la
    have ci : ∀ (neg : Bool) (cs : List Int) (ah : AH), lNil neg (cs.map D.int) ah = .ok (if cs = [] then !neg else neg) ah := lNil_ints
    cases cells with
    | nil => simp [hA_at, hA_cells, hA_sum, hA_list, ci, tl, hA_fin, Dk.drawA, -List.map_nil]
    | cons c r =>
      have fd : ∀ ah, oFdiv (.int c) (.int b) ah = .ok (.int (c / b)) ah := fun ah => oFdiv_int ah h1 h2
      have md : ∀ ah, oMod (.int c) (.int b) ah = .ok (.int (c % b)) ah := fun ah => oMod_int ah h1
      by_cases hc : (1000000000000000000 : Int) ≤ c
      · simp [hA_at, hA_cells, hA_sum, hA_list, ci, tl, hA_fin, Dk.drawA, hA_isList, hA_pop, p18, hc, fd, md, -List.map_cons]
        rw [hA_ins (d := ⟨r, a + 1, s⟩) (by simp at len; show r.length < 16777216; omega)]
        simp [md, hA_fin]
      · simp [hA_at, hA_cells, hA_sum, hA_list, ci, tl, hA_fin, Dk.drawA, hA_isList, hA_pop, p18, hc, -List.map_cons]
  · unfold Dk.drawA
    cases e : d.cells with
    | nil => simp
    | cons c r =>
      rw [e] at len
      dsimp only
      split <;> (simp at len ⊢; omega)
/-! the decks as Dks -/
def dksB : Dks where
  at' N ah := ∃ d S rest, ah = hB S d rest ∧ DOk N d
  len := by rintro N ah ⟨d, S, rest, rfl, _⟩; simp [hB]
  stay := by
    rintro N ah ah' ⟨d, S, rest, rfl, h⟩ h3 hs
    match ah', h3 with
    | x :: y :: z :: r, _ =>
      have a := hs 0 (by decide)
      have b := hs 1 (by decide)
      have c := hs 2 (by decide)
      simp only [hB, List.getElem?_cons_zero, List.getElem?_cons_succ, Option.some.injEq] at a b c
      exact ⟨d, S, r, by rw [a, b, c]; rfl, h⟩
  mono := by rintro N M ah ⟨d, S, rest, rfl, h⟩ hl; exact ⟨d, S, rest, rfl, h.mono hl⟩
def dksA : Dks where
  at' N ah := ∃ d S rest, ah = hA S d rest ∧ DOk N d
  len := by rintro N ah ⟨d, S, rest, rfl, _⟩; simp [hA]
  stay := by
    rintro N ah ah' ⟨d, S, rest, rfl, h⟩ h3 hs
    match ah', h3 with
    | x :: y :: z :: r, _ =>
      have a := hs 0 (by decide)
      have b := hs 1 (by decide)
      have c := hs 2 (by decide)
      simp only [hA, List.getElem?_cons_zero, List.getElem?_cons_succ, Option.some.injEq] at a b c
      exact ⟨d, S, r, by rw [a, b, c]; rfl, h⟩
  mono := by rintro N M ah ⟨d, S, rest, rfl, h⟩ hl; exact ⟨d, S, rest, rfl, h.mono hl⟩
/-- a draw by any hand -/
def vDraw : List U → ExK → (U → Prop) → Prop
  | [.ref 2, .int b], _, k => (0 < b ∧ b < 2 ^ 250) ∧ ∀ v : Nat, (v : Int) < b → k (.int v)
  | _, _, _ => False
theorem lim_lt {N : Nat} (h : N + cb 1 ≤ LIM) : N < 2 ^ 5999 := by
  unfold LIM at h
  have : (2 : Nat) ^ 5000 ≤ 2 ^ 5999 := Nat.pow_le_pow_right (by decide) (by decide)
  have c : cb 1 = 2 := rfl
  rw [c] at h
  generalize (2 : Nat) ^ 5000 = M at *
  generalize (2 : Nat) ^ 5999 = M' at *
  omega
theorem hB_grow {S : List D} {d d' : Dk} {rest : AH} : Grow (hB S d rest) (hB S d' rest) := ⟨Nat.le_refl _, fun n h3 hn => by
  obtain ⟨m, rfl⟩ : ∃ m, n = m + 3 := ⟨n - 3, by omega⟩
  rfl⟩
theorem hA_grow {S : List D} {d d' : Dk} {rest : AH} : Grow (hA S d rest) (hA S d' rest) := ⟨Nat.le_refl _, fun n h3 hn => by
  obtain ⟨m, rfl⟩ : ∃ m, n = m + 3 := ⟨n - 3, by omega⟩
  rfl⟩
theorem lf_drawB : LF dksB 1 m_drawB vDraw := ⟨fun {ok ah N X k us ds} o q kk l x => by
  change Rs ok ah us ds at q
  unfold vDraw at x
  split at x
  · simp only [Rs, R] at q
    obtain ⟨d, es, rfl, rfl, d2, es2, rfl, rfl, rfl⟩ := q
    obtain ⟨d, S, rest, rfl, h⟩ := kk
    obtain ⟨⟨x1, x2⟩, x⟩ := x
    obtain ⟨v, d', h1, h2, h3⟩ := drawB2 h (lim_lt l) x1 (Int.lt_trans x2 (by decide +kernel))
    rw [h1]
    exact ⟨_, x v h2, (show R ok (hB S d' rest) (.int v) (.int v) by simp only [R]), hB_grow, d', S, rest, rfl, h3.mono (by have c : cb 1 = 2 := rfl; rw [c]; omega)⟩
  · exact x.elim⟩
theorem lf_drawA : LF dksA 1 m_drawA vDraw := ⟨fun {ok ah N X k us ds} o q kk l x => by
  change Rs ok ah us ds at q
  unfold vDraw at x
  split at x
  · simp only [Rs, R] at q
    obtain ⟨d, es, rfl, rfl, d2, es2, rfl, rfl, rfl⟩ := q
    obtain ⟨d, S, rest, rfl, h⟩ := kk
    obtain ⟨⟨x1, x2⟩, x⟩ := x
    obtain ⟨v, d', h1, h2, h3⟩ := drawA2 h (lim_lt l) x1 (Int.lt_trans x2 (by decide +kernel))
    rw [h1]
    exact ⟨_, x v h2, (show R ok (hA S d' rest) (.int v) (.int v) by simp only [R]), hA_grow, d', S, rest, rfl, h3.mono (by have c : cb 1 = 2 := rfl; rw [c]; omega)⟩
  · exact x.elim⟩
/-- the whole law -/
def TrueK : SK := ⟨fun _ => False, fun u => u = .bl true, fun _ => False, fun _ => False, fun _ _ _ => False⟩
theorem law_V {K : Dks} {c n : Nat} {rest : SM} {pr : VS} {md : List D → AH → Res D} {ns : List Int} {ah1 : AH} (hd : md [.ref 0] (ah0 ns) = .ok (.ref 2) ah1) (hk : K.at' 0 ah1) (h : LS K false [] none c [] [] rest pr) (hc : Nat.ble c 4900 = true) (x : pr (none :: some (.ref 2) :: List.replicate n none) TrueK) :
    ∃ ah', fnR (n + 2) 1 (sSeq (sAsg (e1 (aCons (eVar 0) aNil) md) (gSet 1)) rest) [.ref 0] (ah0 ns) = .ok (.bl true) ah' := by
  have st : StR (fun m => 3 ≤ m) ah1.length [] (none :: some (.ref 2) :: List.replicate n none) (some (.ref 0) :: some (.ref 2) :: List.replicate n none) ah1 := by
    have sh : ∀ (i : Nat) (u : U), i ∉ [] → (none :: some (U.ref 2) :: List.replicate n none)[i]? = some (some u) → ∃ d, (some (D.ref 0) :: some (.ref 2) :: List.replicate n none)[i]? = some (some d) ∧ R (av (fun m => 3 ≤ m) (some (D.ref 0) :: some (.ref 2) :: List.replicate n none) []) ah1 u d := fun i u _ e => by
      match i with
      | 0 => simp at e
      | 1 =>
        simp only [List.getElem?_cons_succ, List.getElem?_cons_zero, Option.some.injEq] at e
        subst e
        exact ⟨.ref 2, rfl, by simp only [R]⟩
      | i + 2 =>
        simp only [List.getElem?_cons_succ, List.getElem?_replicate] at e
        split at e
        · cases e
        · cases e
    exact ⟨by simp, Nat.le_refl _, sh, fun i hi => absurd hi List.not_mem_nil, fun i j n hi => absurd hi List.not_mem_nil⟩
  have l3 := K.len hk
  have w := h.to (ok := fun m => 3 ≤ m) (b := ah1.length) ⟨fun n h => h, fun n h => Nat.le_trans l3 h⟩ st hk (by
    rw [Nat.zero_add]
    have h1 := Nat.le_of_ble_eq_true hc
    unfold cb LIM
    split
    · exact Nat.zero_le _
    · exact Nat.pow_le_pow_right (by decide) (by omega)) x
  unfold fnR
  simp only [List.length_singleton, if_true, List.map_cons, List.map_nil, List.singleton_append]
  have e0 : (n + 2 - 1) = n + 1 := by omega
  rw [e0, List.replicate_succ]
  simp only [sSeq_def, sAsg_set, e1_def, aCons_def, eVar_zero, Res.bind_ok, aNil_def, hd, thenS_ok, List.set_cons_succ, List.set_cons_zero, next_nx]
  cases z : rest (some (.ref 0) :: some (.ref 2) :: List.replicate n none) ah1 with
  | rt d ah2 =>
    rw [z] at w
    obtain ⟨u, h1, h2, _⟩ := w
    have : u = .bl true := h1
    subst this
    have h2' : R (fun m => 3 ≤ m) ah2 (.bl true) d := h2
    simp only [R] at h2'
    subst h2'
    exact ⟨ah2, rfl⟩
  | nx e a => rw [z] at w; obtain ⟨_, h1, _⟩ := w; exact h1.elim
  | bk e a => rw [z] at w; obtain ⟨_, h1, _⟩ := w; exact h1.elim
  | ct e a => rw [z] at w; obtain ⟨_, h1, _⟩ := w; exact h1.elim
  | exn c f e a => rw [z] at w; obtain ⟨_, _, h1, _⟩ := w; exact h1.elim
  | stuck => rw [z] at w; exact w.elim
end HV

/-! V9: max with a default, dicts told by their items. -/
namespace HV
open PySem PySem.Spec PyProof.Rows L2 HA
def vCal (pa : VE (List U)) (f : List U → ExK → (U → Prop) → Prop) : VE U := v1 pa f
section
variable {K : Dks}
def vMaxD : List U → List U → ExK → (U → Prop) → Prop
  | [.lst us], [.int d], _, k => match optAll uInt us with
    | some ns => k (.int (maxOf ns d))
    | none => False
  | _, _, _, _ => False
theorem lo_maxD : LO2 K RUs RUs RU oMaxD vMaxD := ⟨fun {ok ah N X k a b a' b'} o q q' kk x => by
  change Rs ok ah a b at q
  change Rs ok ah a' b' at q'
  unfold vMaxD at x
  split at x
  · simp only [Rs, R] at q q'
    obtain ⟨d, es, rfl, ⟨n, ds, rfl, _, e, r⟩, rfl⟩ := q
    obtain ⟨d, es, rfl, rfl, rfl⟩ := q'
    split at x
    · rename_i ns hn
      unfold oMaxD HA.listAt
      simp only [e, optAll_Rs uInt_d _ _ _ r hn]
      exact .okI x (show R ok ah _ _ by simp only [R]) kk
    · exact x.elim
  · exact x.elim⟩
def RPr : Rl (List (U × U)) (List (D × D)) := ⟨fun ok ah us ds => Rs ok ah (us.map (·.1)) (ds.map (·.1)) ∧ Rs ok ah (us.map (·.2)) (ds.map (·.2)), fun {ok ok' ah ah' a b} h1 h2 h => ⟨Rs.mono h1 h2 (a.map (·.1)) (b.map (·.1)) h.1, Rs.mono h1 h2 (a.map (·.2)) (b.map (·.2)) h.2⟩⟩
def vPairs : List (VE U × VE U) → VE (List (U × U))
  | [] => fun _ _ k => k []
  | (a, b) :: r => fun Γ X k => a Γ X fun x => b Γ X fun y => vPairs r Γ X fun ps => k ((x, y) :: ps)
theorem ld_nil : LE K RPr 0 (dPairs []) (vPairs []) := ⟨fun {ok Γ env ah N X k} o e kk l x => .okI x (show _ ∧ _ from ⟨Rs.nil (ok := ok) (ah := ah), Rs.nil⟩) kk⟩
theorem ld_cons {c c' c2 : Nat} {ma mb : EM D} {a b : VE U} {ms : List (EM D × EM D)} {vs : List (VE U × VE U)} (h : LE K RU c ma a) (h' : LE K RU c' mb b) (hr : LE K RPr c2 (dPairs ms) (vPairs vs)) : LE K RPr (sq c (sq c' c2)) (dPairs ((ma, mb) :: ms)) (vPairs ((a, b) :: vs)) :=
  le_3 (f := fun x y ps ah3 => Res.ok ((x, y) :: ps) ah3) (pf := fun x y ps _ k => k ((x, y) :: ps)) (Q' := RPr) h h' hr ⟨fun o q q1 q2 kk x => .okI x ⟨Rs.cons q q2.1, Rs.cons q1 q2.2⟩ kk⟩
def uDisp : List (Key × U) → List Key → List U → U
  | [], ks, us => .dK ks us
  | (kk, u) :: r, ks, us => match uPut ks us kk u with
    | .dK ks' us' => uDisp r ks' us'
    | a => a
def vDisp (l : List (VE U × VE U)) : VE U := fun Γ X k => vPairs l Γ X fun ps => match optAll (fun p => (uKey p.1).map fun kk => (kk, p.2)) ps with
  | some kvs => kvs.length ≤ 15 ∧ k (uDisp kvs [] [])
  | none => False
theorem uPut_D {ok : Nat → Prop} {ah : AH} {ks : List Key} {us : List U} {kvs : List (Key × D)} {key : Key} {v : U} {dv : D} (h : OR ok ah (.dK ks us) (.dK kvs)) (q : R ok ah v dv) : ∃ ks' us', uPut ks us key v = .dK ks' us' ∧ OR ok ah (.dK ks' us') (.dK (putD kvs key dv)) := by
  obtain ⟨e6, r'⟩ := h
  unfold uPut putD
  rw [← e6, List.any_map]
  have ea : kvs.any ((fun z => decide (z = key)) ∘ fun x => x.1) = kvs.any fun kv => decide (kv.1 = key) := rfl
  rw [ea]
  split
  · refine ⟨_, _, rfl, ?_, put_Rs q us kvs r'⟩
    rw [List.map_map]
    refine List.map_congr_left fun kv _ => ?_
    show (if kv.1 = key then (kv.1, dv) else kv).1 = kv.1
    split <;> rfl
  · exact ⟨_, _, rfl, by simp, by rw [List.map_append]; exact r'.app (Rs.cons q Rs.nil)⟩
theorem uDisp_D {ok : Nat → Prop} {ah : AH} : ∀ (kus : List (Key × U)) (kds : List (Key × D)) (ks : List Key) (us : List U) (kvs : List (Key × D)), kus.map (·.1) = kds.map (·.1) → Rs ok ah (kus.map (·.2)) (kds.map (·.2)) → OR ok ah (.dK ks us) (.dK kvs) → OR ok ah (uDisp kus ks us) (.dK (kds.foldl (fun acc kv => putD acc kv.1 kv.2) kvs))
  | [], kds, ks, us, kvs, e, r, h => by
    cases kds with
    | nil => exact h
    | cons _ _ => simp at e
  | (kk, u) :: kus, [], ks, us, kvs, e, r, h => by simp at e
  | (kk, u) :: kus, (k2, d) :: kds, ks, us, kvs, e, r, h => by
    simp only [List.map_cons, List.cons.injEq] at e
    obtain ⟨rfl, e⟩ := e
    simp only [List.map_cons, Rs, List.cons.injEq] at r
    obtain ⟨_, _, ⟨rfl, rfl⟩, q, r⟩ := r
    obtain ⟨ks', us', h1, h2⟩ := uPut_D (key := kk) h q
    unfold uDisp
    rw [h1]
    exact uDisp_D kus kds ks' us' _ e r h2
theorem pairs_key {ok : Nat → Prop} {ah : AH} : ∀ (ups : List (U × U)) (dps : List (D × D)) (kus : List (Key × U)), Rs ok ah (ups.map (·.1)) (dps.map (·.1)) → Rs ok ah (ups.map (·.2)) (dps.map (·.2)) → optAll (fun p => (uKey p.1).map fun kk => (kk, p.2)) ups = some kus → ∃ kds, optAll (fun p => (dKey p.1).map fun kk => (kk, p.2)) dps = some kds ∧ kus.map (·.1) = kds.map (·.1) ∧ Rs ok ah (kus.map (·.2)) (kds.map (·.2)) ∧ kus.length = kds.length
  | [], dps, kus, r1, r2, h => by
    simp only [List.map_nil, Rs, List.map_eq_nil_iff] at r1
    subst r1
    unfold optAll at h
    cases h
    exact ⟨[], rfl, rfl, Rs.nil, rfl⟩
  | up :: ups, [], kus, r1, r2, h => by simp [Rs] at r1
  | up :: ups, dp :: dps, kus, r1, r2, h => by
    simp only [List.map_cons, Rs, List.cons.injEq] at r1 r2
    obtain ⟨_, _, ⟨rfl, rfl⟩, q1, r1⟩ := r1
    obtain ⟨_, _, ⟨rfl, rfl⟩, q2, r2⟩ := r2
    unfold optAll at h
    split at h
    · rename_i b bs hb hbs
      cases h
      rw [Option.map_eq_some_iff] at hb
      obtain ⟨kk, hk, rfl⟩ := hb
      obtain ⟨kds, h1, h2, h3, h4⟩ := pairs_key ups dps bs r1 r2 hbs
      refine ⟨(kk, dp.2) :: kds, ?_, by simp [h2], Rs.cons q2 h3, by simp [h4]⟩
      unfold optAll
      simp only [uKey_d q1 hk, Option.map_some, h1]
    · cases h
theorem ln_disp {c : Nat} {ms : List (EM D × EM D)} {vs : List (VE U × VE U)} (h : LE K RPr c (dPairs ms) (vPairs vs)) : LN (K := K) c (eDisp ms) (vDisp vs) := ⟨fun {ok Γ env ah N X k} o e kk l x => by
  have w := h.to o e kk l x
  unfold eDisp
  cases z : dPairs ms env ah with
  | ok ds ah1 =>
    rw [z] at w
    obtain ⟨us, h1, ⟨r1, r2⟩, h3, h4⟩ := w
    simp only [Res.bind]
    split at h1
    · rename_i kus hk
      obtain ⟨kds, f1, f2, f3, f4⟩ := pairs_key us ds kus r1 r2 hk
      rw [f1]
      simp only
      rw [if_pos (by rw [← f4]; exact h1.1)]
      have hor := uDisp_D (ok := fun m => ok m ∧ m ≠ ah1.length) (ah := ah1 ++ [.dK (dispD kds)]) kus kds [] [] [] f2 (Rs.mono (fun n a => ⟨a.1, by have := a.2; omega⟩) (fun n o a e => by rw [List.getElem?_append_left a.2]; exact e) _ _ (Rs.inb _ _ f3)) ⟨rfl, Rs.nil⟩
      exact ⟨_, _, _, h1.2, rfl, h3.len, (by simp; rfl), hor, h3.trans Grow.app, K.app _ h4⟩
    · exact h1.elim
  | exn a fs ah1 => rw [z] at w; exact w
  | stuck => rw [z] at w; exact w⟩
end
end HV

/-! V10: by value: two clauses, zip, sorted. -/
namespace HV
open PySem PySem.Spec PyProof.Rows L2 HA
section
variable {K : Dks}
def uItems : U → List U
  | .lst us => us
  | _ => []
def flatU (yss : List U) : List U := (yss.map uItems).flatten
def vInn (pi1 : VE (List U)) (vt1 : VTM) (pt1 : VE Bool) (pe : VE U) (vs1 : List Nat) : VE U := fun Γ X k => pi1 Γ XF fun us1 => us1.length ≤ 4096 ∧ vLcL vt1 pt1 pe (wipeU Γ vs1) us1 fun ys => k (.lst ys)
def vLc2 (pi : VE (List U)) (vt : VTM) (pt : VE Bool) (pi1 : VE (List U)) (vt1 : VTM) (pt1 : VE Bool) (pe : VE U) (vs vs1 : List Nat) : VE U := fun Γ X k => pi Γ X fun us => us.length ≤ 4096 ∧ vLcL vt pt (vInn pi1 vt1 pt1 pe vs1) (wipeU Γ vs) us fun yss => k (.lst (flatU yss))
/-- everything but the list in the making stays -/
structure GrowX (n : Nat) (ah ah' : AH) : Prop where
  len : ah.length ≤ ah'.length
  same : ∀ m, 3 ≤ m → m ≠ n → m < ah.length → ah'[m]? = ah[m]?
theorem GrowX.of {n : Nat} {ah ah' : AH} (g : Grow ah ah') : GrowX n ah ah' := ⟨g.len, fun m h3 _ hm => g.same m h3 hm⟩
theorem GrowX.trans {n : Nat} {a b c : AH} (h : GrowX n a b) (k : GrowX n b c) : GrowX n a c := ⟨Nat.le_trans h.len k.len, fun m h3 hn hm => (k.same m h3 hn (Nat.lt_of_lt_of_le hm h.len)).trans (h.same m h3 hn hm)⟩
theorem GrowX.set {n : Nat} {ah : AH} {o : AObj} : GrowX n ah (ah.set n o) := ⟨by rw [List.length_set]; exact Nat.le_refl _, fun m _ hn _ => List.getElem?_set_ne (fun e => hn e.symm)⟩
theorem GrowX.sta {ok : Nat → Prop} {n : Nat} {ah ah' : AH} (g : GrowX n ah ah') (h : OkF ok ah) (hn : ¬ ok n) : Sta ok ah ah' := fun m o hm e => by
  rw [g.same m (h.three m hm) (fun z => hn (z ▸ hm)) (List.getElem?_eq_some_iff.mp e).1]; exact e
theorem OkF.growX {ok : Nat → Prop} {n : Nat} {ah ah' : AH} (h : OkF ok ah) (g : GrowX n ah ah') : OkF ok ah' := ⟨h.three, fun m hm => h.fresh m (Nat.le_trans g.len hm)⟩
theorem EnvR.sta {ok : Nat → Prop} {ah ah' : AH} {Γ : UEnv} {env : HA.Env} (h : EnvR ok ah Γ env) (s : Sta ok ah ah') : EnvR ok ah' Γ env := ⟨h.len, fun i u e => let ⟨d, e1, r⟩ := h.at' i u e; ⟨d, e1, R.mono (fun _ h => h) s _ _ r⟩⟩
/-- what the making of the list n comes to -/
def MkR (K : Dks) (ok : Nat → Prop) (n : Nat) (ah : AH) (N : Nat) (k : List U → Prop) : Option AH → Prop
  | some ah' => ∃ ys acc, k ys ∧ ah'[n]? = some (.lst acc) ∧ Rs ok ah' ys acc ∧ GrowX n ah ah' ∧ K.at' N ah'
  | none => False
theorem MkR.le {ok : Nat → Prop} {n : Nat} {ah : AH} {N M : Nat} {k : List U → Prop} {r : Option AH} (h : MkR K ok n ah N k r) (hM : N ≤ M) : MkR K ok n ah M k r := by
  cases r with
  | none => exact h
  | some a => obtain ⟨ys, acc, h1, h2, h3, h4, h5⟩ := h; exact ⟨ys, acc, h1, h2, h3, h4, K.mono h5 hM⟩
theorem MkR.after {ok : Nat → Prop} {n : Nat} {ah ah1 : AH} {N : Nat} {k : List U → Prop} {r : Option AH} (h : MkR K ok n ah1 N k r) (g : GrowX n ah ah1) : MkR K ok n ah N k r := by
  cases r with
  | none => exact h
  | some a => obtain ⟨ys, acc, h1, h2, h3, h4, h5⟩ := h; exact ⟨ys, acc, h1, h2, h3, g.trans h4, h5⟩
theorem MkR.weak {ok : Nat → Prop} {n : Nat} {ah : AH} {N : Nat} {k k' : List U → Prop} {r : Option AH} (h : MkR K ok n ah N k r) (hk : ∀ ys, k ys → k' ys) : MkR K ok n ah N k' r := by
  cases r with
  | none => exact h
  | some a => obtain ⟨ys, acc, h1, h2⟩ := h; exact ⟨ys, acc, hk _ h1, h2⟩
theorem lcH_V {c c' n : Nat} {t : Itm} {tm : TM} {vt : VTM} {ts : List Nat} {test : EM Bool} {elt : EM D} {pt : VE Bool} {pe : VE U} {vs : List Nat} {env : HA.Env} {Γ : UEnv} {ok : Nat → Prop} (hn : ¬ ok n) (h3 : 3 ≤ n) (hT : LTg tm vt ts) (ht : LE K (REq Bool) c test pt) (he : LE K RU c' elt pe) :
    ∀ (us : List U) (ds : List D) (ua : List U) (acc : List D) (ah : AH) (N : Nat) (k : List U → Prop), OkF ok ah → EnvR ok ah Γ env → K.at' N ah → (∀ p, p ∈ t.guard → ok p.1 ∧ ah[p.1]? = some (.lst p.2)) → N + us.length * cb (sq c c') ≤ LIM → Rs ok ah us ds → ah[n]? = some (.lst acc) → Rs ok ah ua acc → acc.length + us.length ≤ line → (vLcL vt pt pe (wipeU Γ vs) us fun ys => k (ua ++ ys)) →
      MkR K ok n ah (N + us.length * cb (sq c c')) (fun ys => k ys ∧ ys.length ≤ ua.length + us.length) (lcH n t tm test elt vs env ds ah)
  | [], ds, ua, acc, ah, N, k, o, e, kk, hg, l, r, en, ra, hl, x => by
    simp only [Rs] at r
    subst r
    unfold lcH
    rw [if_pos (okIn_of fun p hp => (hg p hp).2)]
    unfold vLcL at x
    rw [List.append_nil] at x
    exact ⟨ua, acc, ⟨x, by simp⟩, en, ra, GrowX.of Grow.refl, by simpa using kk⟩
  | u :: us, ds, ua, acc, ah, N, k, o, e, kk, hg, l, r, en, ra, hl, x => by
    simp only [Rs] at r
    obtain ⟨d, ds, rfl, q, r⟩ := r
    have s := cb_sq c c'
    rw [List.length_cons, Nat.add_mul, Nat.one_mul] at l
    rw [List.length_cons] at hl
    unfold vLcL at x
    split at x
    · rename_i bs hb
      obtain ⟨cs, h1, h2, _⟩ := hT.to (wipeE env vs) q hb
      have e1 : EnvR ok ah (setU (wipeU Γ vs) bs) (setD (wipeE env vs) cs) := (e.wipe vs).sets h2
      unfold lcH
      rw [if_pos (okIn_of fun p hp => (hg p hp).2), h1]
      simp only
      have w := ht.to o e1 kk (by omega) x
      cases z : test (setD (wipeE env vs) cs) ah with
      | stuck => rw [z] at w; exact w.elim
      | exn a f h => rw [z] at w; obtain ⟨f, y, _⟩ := w; exact y.elim
      | ok b ah1 =>
        rw [z] at w
        obtain ⟨b', kb, rfl, g, k1⟩ := w
        have o1 := o.grow g
        have en1 : ah1[n]? = some (.lst acc) := by rw [g.same n h3 (List.getElem?_eq_some_iff.mp en).1]; exact en
        have hg1 : ∀ p, p ∈ t.guard → ok p.1 ∧ ah1[p.1]? = some (.lst p.2) := fun p hp => ⟨(hg p hp).1, g.sta o _ _ (hg p hp).1 (hg p hp).2⟩
        cases b' with
        | true =>
          simp only [if_true] at kb ⊢
          have w := he.to o1 (e1.grow o g) k1 (by omega) kb
          cases z : elt (setD (wipeE env vs) cs) ah1 with
          | stuck => rw [z] at w; exact w.elim
          | exn a f h => rw [z] at w; obtain ⟨f, y, _⟩ := w; exact y.elim
          | ok y ah2 =>
            rw [z] at w
            obtain ⟨y', ky, qy, g2, k2⟩ := w
            have gg := g.trans g2
            have en2 : ah2[n]? = some (.lst acc) := by rw [g2.same n h3 (List.getElem?_eq_some_iff.mp en1).1]; exact en1
            have hnl : n < ah2.length := (List.getElem?_eq_some_iff.mp en2).1
            simp only
            unfold HA.putAt
            rw [en2]
            simp only
            rw [if_pos (by omega)]
            simp only
            have gx : GrowX n ah (ah2.set n (.lst (acc ++ [y]))) := (GrowX.of gg).trans GrowX.set
            have st := gx.sta o hn
            have st2 : Sta ok ah2 (ah2.set n (.lst (acc ++ [y]))) := GrowX.set.sta (o1.grow g2) hn
            have raa : Rs ok ah2 (ua ++ [y']) (acc ++ [y]) := (ra.grow o gg).app (Rs.cons qy Rs.nil)
            have := lcH_V hn h3 hT ht he us ds (ua ++ [y']) (acc ++ [y]) (ah2.set n (.lst (acc ++ [y]))) (N + cb c + cb c') k (o.growX gx) (e.sta st) (Dks.set k2 h3) (fun p hp => ⟨(hg p hp).1, st _ _ (hg p hp).1 (hg p hp).2⟩) (by omega) (Rs.mono (fun _ h => h) st _ _ r) (List.getElem?_set_self hnl) (Rs.mono (fun _ h => h) st2 _ _ raa) (by rw [List.length_append, List.length_singleton]; omega) (by simpa [List.append_assoc] using ky)
            refine ((this.after gx).le (by rw [List.length_cons, Nat.add_mul, Nat.one_mul]; omega)).weak fun ys h => ⟨h.1, ?_⟩
            have := h.2
            rw [List.length_append, List.length_singleton] at this
            rw [List.length_cons]
            omega
        | false =>
          simp only [Bool.false_eq_true, if_false] at kb ⊢
          have := lcH_V hn h3 hT ht he us ds ua acc ah1 (N + cb c) k o1 (e.grow o g) k1 hg1 (by omega) (r.grow o g) en1 (ra.grow o g) (by omega) kb
          refine ((this.after (GrowX.of g)).le (by rw [List.length_cons, Nat.add_mul, Nat.one_mul]; omega)).weak fun ys h => ⟨h.1, ?_⟩
          have := h.2
          rw [List.length_cons]
          omega
    · exact x.elim
theorem flatU_cons (ys : List U) (yss : List U) : flatU (.lst ys :: yss) = ys ++ flatU yss := rfl
theorem lcH2_V {c ci c1 c' n : Nat} {t : Itm} {tm tm1 : TM} {vt vt1 : VTM} {ts ts1 : List Nat} {test test1 : EM Bool} {mi1 : EM Itm} {elt : EM D} {pt pt1 : VE Bool} {pi1 : VE (List U)} {pe : VE U} {vs vs1 : List Nat} {env : HA.Env} {Γ : UEnv} {ok : Nat → Prop} (hn : ¬ ok n) (h3 : 3 ≤ n) (hT : LTg tm vt ts) (ht : LE K (REq Bool) c test pt) (hi1 : LE K RIt ci mi1 pi1) (hT1 : LTg tm1 vt1 ts1) (ht1 : LE K (REq Bool) c1 test1 pt1) (he : LE K RU c' elt pe) :
    ∀ (us : List U) (ds : List D) (ua : List U) (acc : List D) (ah : AH) (N : Nat) (k : List U → Prop), OkF ok ah → EnvR ok ah Γ env → K.at' N ah → (∀ p, p ∈ t.guard → ok p.1 ∧ ah[p.1]? = some (.lst p.2)) → N + us.length * cb (sq c (sq ci (lp (sq c1 c')))) ≤ LIM → Rs ok ah us ds → ah[n]? = some (.lst acc) → Rs ok ah ua acc → acc.length + us.length * 4096 ≤ line → (vLcL vt pt (vInn pi1 vt1 pt1 pe vs1) (wipeU Γ vs) us fun yss => k (ua ++ flatU yss)) →
      MkR K ok n ah (N + us.length * cb (sq c (sq ci (lp (sq c1 c'))))) k (lcH2 n t tm test mi1 tm1 test1 elt vs vs1 env ds ah)
  | [], ds, ua, acc, ah, N, k, o, e, kk, hg, l, r, en, ra, hl, x => by
    simp only [Rs] at r
    subst r
    unfold lcH2
    rw [if_pos (okIn_of fun p hp => (hg p hp).2)]
    unfold vLcL at x
    rw [show flatU [] = [] from rfl, List.append_nil] at x
    exact ⟨ua, acc, x, en, ra, GrowX.of Grow.refl, by simpa using kk⟩
  | u :: us, ds, ua, acc, ah, N, k, o, e, kk, hg, l, r, en, ra, hl, x => by
    simp only [Rs] at r
    obtain ⟨d, ds, rfl, q, r⟩ := r
    have s := cb_sq c (sq ci (lp (sq c1 c')))
    have s' := cb_sq ci (lp (sq c1 c'))
    rw [List.length_cons, Nat.add_mul, Nat.one_mul] at l
    rw [List.length_cons] at hl
    unfold vLcL at x
    split at x
    · rename_i bs hb
      obtain ⟨cs, h1, h2, _⟩ := hT.to (wipeE env vs) q hb
      have e1 : EnvR ok ah (setU (wipeU Γ vs) bs) (setD (wipeE env vs) cs) := (e.wipe vs).sets h2
      unfold lcH2
      rw [if_pos (okIn_of fun p hp => (hg p hp).2), h1]
      simp only
      have w := ht.to o e1 kk (by omega) x
      cases z : test (setD (wipeE env vs) cs) ah with
      | stuck => rw [z] at w; exact w.elim
      | exn a f h => rw [z] at w; obtain ⟨f, y, _⟩ := w; exact y.elim
      | ok b ah1 =>
        rw [z] at w
        obtain ⟨b', kb, rfl, g, k1⟩ := w
        have o1 := o.grow g
        have en1 : ah1[n]? = some (.lst acc) := by rw [g.same n h3 (List.getElem?_eq_some_iff.mp en).1]; exact en
        have hg1 : ∀ p, p ∈ t.guard → ok p.1 ∧ ah1[p.1]? = some (.lst p.2) := fun p hp => ⟨(hg p hp).1, g.sta o _ _ (hg p hp).1 (hg p hp).2⟩
        cases b' with
        | true =>
          simp only [if_true] at kb ⊢
          change pi1 (setU (wipeU Γ vs) bs) XF (fun us1 => us1.length ≤ 4096 ∧ vLcL vt1 pt1 pe (wipeU (setU (wipeU Γ vs) bs) vs1) us1 fun ys => vLcL vt pt (vInn pi1 vt1 pt1 pe vs1) (wipeU Γ vs) us fun yss => k (ua ++ flatU (U.lst ys :: yss))) at kb
          have w := hi1.to o1 (e1.grow o g) k1 (by omega) kb
          cases z : mi1 (setD (wipeE env vs) cs) ah1 with
          | stuck => rw [z] at w; exact w.elim
          | exn a f h => rw [z] at w; obtain ⟨f, y, _⟩ := w; exact y.elim
          | ok t1 ah2 =>
            rw [z] at w
            obtain ⟨us1, ⟨hl1, ky⟩, ⟨qi, hgi⟩, g2, k2⟩ := w
            have gg := g.trans g2
            have en2 : ah2[n]? = some (.lst acc) := by rw [g2.same n h3 (List.getElem?_eq_some_iff.mp en1).1]; exact en1
            have b1 := cb_lp (sq c1 c') us1.length (by omega)
            simp only
            have w := lcH_V hn h3 hT1 ht1 he us1 t1.items ua acc ah2 (N + cb c + cb ci) (fun zs => vLcL vt pt (vInn pi1 vt1 pt1 pe vs1) (wipeU Γ vs) us fun yss => k (zs ++ flatU yss)) (o1.grow g2) (e1.grow o gg) k2 hgi (by omega) qi en2 (ra.grow o gg) (by omega)
              (by
                have ky := ky
                simp only [flatU_cons] at ky
                simpa only [List.append_assoc] using ky)
            cases z2 : lcH n t1 tm1 test1 elt vs1 (setD (wipeE env vs) cs) t1.items ah2 with
            | none => rw [z2] at w; exact w.elim
            | some ah3 =>
              rw [z2] at w
              obtain ⟨zs, acc', ⟨kz, lz⟩, en3, r3, g3, k3⟩ := w
              simp only
              have gx : GrowX n ah ah3 := (GrowX.of gg).trans g3
              have st := gx.sta o hn
              have lr := r3.len
              have la := ra.len
              have := lcH2_V hn h3 hT ht hi1 hT1 ht1 he us ds zs acc' ah3 (N + cb c + cb ci + us1.length * cb (sq c1 c')) k (o.growX gx) (e.sta st) k3 (fun p hp => ⟨(hg p hp).1, st _ _ (hg p hp).1 (hg p hp).2⟩) (by omega) (Rs.mono (fun _ h => h) st _ _ r) en3 r3 (by omega) kz
              exact (this.after gx).le (by rw [List.length_cons, Nat.add_mul, Nat.one_mul]; omega)
        | false =>
          simp only [Bool.false_eq_true, if_false] at kb ⊢
          have := lcH2_V hn h3 hT ht hi1 hT1 ht1 he us ds ua acc ah1 (N + cb c) k o1 (e.grow o g) k1 hg1 (by omega) (r.grow o g) en1 (ra.grow o g) (by omega) kb
          exact (this.after (GrowX.of g)).le (by rw [List.length_cons, Nat.add_mul, Nat.one_mul]; omega)
    · exact x.elim
theorem ln_lc2 {cm c ci c1 c' : Nat} {mi mi1 : EM Itm} {tm tm1 : TM} {vt vt1 : VTM} {ts ts1 : List Nat} {test test1 : EM Bool} {elt : EM D} {pi pi1 : VE (List U)} {pt pt1 : VE Bool} {pe : VE U} {vs vs1 : List Nat} (hi : LE K RIt cm mi pi) (hT : LTg tm vt ts) (ht : LE K (REq Bool) c test pt) (hi1 : LE K RIt ci mi1 pi1) (hT1 : LTg tm1 vt1 ts1) (ht1 : LE K (REq Bool) c1 test1 pt1) (he : LE K RU c' elt pe) :
    LN (K := K) (sq cm (lp (sq c (sq ci (lp (sq c1 c')))))) (eLc2 mi tm test mi1 tm1 test1 elt vs vs1) (vLc2 pi vt pt pi1 vt1 pt1 pe vs vs1) := ⟨fun {ok Γ env ah N X k} o e kk l x => by
  have s := cb_sq cm (lp (sq c (sq ci (lp (sq c1 c')))))
  have w := hi.to o e kk (by omega) x
  unfold eLc2
  cases z : mi env ah with
  | stuck => rw [z] at w; exact w
  | exn a f h => rw [z] at w; obtain ⟨f, y, q, g, k1⟩ := w; exact ⟨f, y, q, g, K.mono k1 (by omega)⟩
  | ok t ah1 =>
    rw [z] at w
    obtain ⟨us, ⟨hl, ka⟩, ⟨q, hg⟩, g, k1⟩ := w
    have b := cb_lp (sq c (sq ci (lp (sq c1 c')))) us.length (by omega)
    rw [Res.bind_ok]
    have q : Rs ok ah1 us t.items := q
    have hg : ∀ p, p ∈ t.guard → ok p.1 ∧ ah1[p.1]? = some (.lst p.2) := hg
    have up : ∀ m, (ok m ∧ m < ah1.length) → (ok m ∧ m ≠ ah1.length) := fun m h => ⟨h.1, Nat.ne_of_lt h.2⟩
    have st : Sta (fun m => ok m ∧ m < ah1.length) ah1 (ah1 ++ [.lst []]) := fun m o' h e => by rw [List.getElem?_append_left h.2]; exact e
    have o1 := o.grow g
    have ox : OkF (fun m => ok m ∧ m ≠ ah1.length) (ah1 ++ [.lst []]) := ⟨fun m h => o1.three m h.1, fun m hm => by
      rw [List.length_append, List.length_singleton] at hm
      exact ⟨o1.fresh m (by omega), by omega⟩⟩
    have e1 := e.grow o g
    have ex : EnvR (fun m => ok m ∧ m ≠ ah1.length) (ah1 ++ [.lst []]) Γ env := ⟨e1.len, fun i u ei => let ⟨d, e2, r⟩ := e1.at' i u ei; ⟨d, e2, R.mono up st _ _ (R.inb _ _ r)⟩⟩
    have w := lcH2_V (ok := fun m => ok m ∧ m ≠ ah1.length) (n := ah1.length) (fun h => h.2 rfl) (K.len k1) hT ht hi1 hT1 ht1 he us t.items [] [] (ah1 ++ [.lst []]) (N + cb cm) (fun ys => k (.lst ys)) ox ex (K.app _ k1)
      (fun p hp => ⟨⟨(hg p hp).1, Nat.ne_of_lt (List.getElem?_eq_some_iff.mp (hg p hp).2).1⟩, by rw [List.getElem?_append_left (List.getElem?_eq_some_iff.mp (hg p hp).2).1]; exact (hg p hp).2⟩) (by omega) (Rs.mono up st _ _ (Rs.inb _ _ q)) (by simp) Rs.nil (by simp [line]; omega) (by simpa using ka)
    cases z2 : lcH2 ah1.length t tm test mi1 tm1 test1 elt vs vs1 env t.items (ah1 ++ [.lst []]) with
    | none => rw [z2] at w; exact w.elim
    | some ah2 =>
      rw [z2] at w
      obtain ⟨ys, acc, ky, en, r, gx, k2⟩ := w
      have gl := gx.len
      rw [List.length_append, List.length_singleton] at gl
      refine ⟨.lst ys, ah1.length, .lst acc, ky, rfl, g.len, en, r, g.trans ⟨by omega, fun m h3 hm => ?_⟩, K.mono k2 (by omega)⟩
      rw [gx.same m h3 (Nat.ne_of_lt hm) (by rw [List.length_append, List.length_singleton]; omega), List.getElem?_append_left hm]⟩
/-! zip -/
def uSeq : U → Option (List U)
  | .tup us => some us
  | .lst us => some us
  | _ => none
def vZip (st : Bool) (u v : U) (_ : ExK) (k : List U → Prop) : Prop := match uSeq u, uSeq v with
  | some xs, some ys => (st = true → xs.length = ys.length) ∧ k ((xs.zip ys).map fun p => .tup [p.1, p.2])
  | _, _ => False
theorem Rs.pairs {ok : Nat → Prop} {ah : AH} : ∀ {us vs : List U} {ds es : List D}, Rs ok ah us ds → Rs ok ah vs es → Rs ok ah ((us.zip vs).map fun p => .tup [p.1, p.2]) (pairsD ds es)
  | [], vs, ds, es, h, t => by simp only [Rs] at h; subst h; simpa [pairsD] using Rs.nil
  | u :: us, [], ds, es, h, t => by simp only [Rs] at t; subst t; simpa [pairsD] using Rs.nil
  | u :: us, v :: vs, ds, es, h, t => by
    simp only [Rs] at h t
    obtain ⟨d, ds, rfl, q, r⟩ := h
    obtain ⟨e, es, rfl, q', r'⟩ := t
    exact Rs.cons (by simp only [R]; exact ⟨_, rfl, Rs.cons q (Rs.cons q' Rs.nil)⟩) (Rs.pairs r r')
theorem part_R {ok : Nat → Prop} {ah : AH} {u : U} {d : D} {us : List U} (h : R ok ah u d) (e : uSeq u = some us) : ∃ ds g, partOf d ah = some (ds, g) ∧ Rs ok ah us ds ∧ ∀ p, p ∈ g → ok p.1 ∧ ah[p.1]? = some (.lst p.2) := by
  unfold uSeq at e
  split at e
  · cases e
    simp only [R] at h
    obtain ⟨ds, rfl, r⟩ := h
    exact ⟨ds, [], rfl, r, fun p hp => by cases hp⟩
  · cases e
    simp only [R] at h
    obtain ⟨n, ds, rfl, on, q, r⟩ := h
    refine ⟨ds, [(n, ds)], ?_, r, fun p hp => by simp only [List.mem_singleton] at hp; subst hp; exact ⟨on, q⟩⟩
    unfold partOf HA.listAt
    simp only [q]
    rfl
  · cases e
theorem lo_zip (st : Bool) : LO2 K RU RU RIt (iZipD st) (vZip st) := ⟨fun {ok ah N X k a b a' b'} o q q' kk x => by
  change R ok ah a b at q
  change R ok ah a' b' at q'
  unfold vZip at x
  split at x
  · rename_i xs ys e1 e2
    obtain ⟨ds, g, p1, r1, g1⟩ := part_R q e1
    obtain ⟨es, g', p2, r2, g2⟩ := part_R q' e2
    unfold iZipD
    rw [p1, p2]
    simp only
    rw [if_neg (by rintro ⟨h, hne⟩; exact hne (by rw [← r1.len, ← r2.len]; exact x.1 h))]
    exact .okI x.2 ⟨Rs.pairs r1 r2, fun p hp => (List.mem_append.mp hp).elim (g1 p) (g2 p)⟩ kk
  · exact x.elim⟩
/-! sorted -/
def uPair : U → Option (Int × Int)
  | .tup [.int a, .int b] => some (a, b)
  | _ => none
def uOfPair (p : Int × Int) : U := .tup [.int p.1, .int p.2]
def vSort (us : List U) (_ : ExK) (k : List U → Prop) : Prop := match optAll uInt us with
  | some ns => k ((ns.mergeSort intLe).map U.int)
  | none => match optAll uPair us with
    | some ps => k ((ps.mergeSort lexLe).map uOfPair)
    | none => False
theorem uPair_d {ok : Nat → Prop} {ah : AH} (u : U) (d : D) (z : Int × Int) (r : R ok ah u d) (e : uPair u = some z) : pairOf d = some z ∧ dInt d = none := by
  unfold uPair at e
  split at e
  · cases e
    simp only [R, Rs] at r
    obtain ⟨ds', rfl, d1, e1, rfl, rfl, d2, e2, rfl, rfl, rfl⟩ := r
    exact ⟨rfl, rfl⟩
  · cases e
theorem Rs.of_pairs {ok : Nat → Prop} {ah : AH} : ∀ (ps : List (Int × Int)), Rs ok ah (ps.map uOfPair) (ps.map ofPair)
  | [] => Rs.nil
  | p :: ps => Rs.cons (by unfold uOfPair ofPair; simp only [R, Rs]; exact ⟨_, rfl, _, _, rfl, rfl, _, _, rfl, rfl, rfl⟩) (Rs.of_pairs ps)
theorem lo_sort : LO1 K RUs RUs 0 lSort vSort := ⟨fun {ok ah N X k a b} o q kk l x => by
  change Rs ok ah a b at q
  unfold vSort at x
  split at x
  · rename_i ns e
    unfold lSort
    rw [optAll_Rs uInt_d _ _ _ q e]
    exact .okI x (Rs.of_ints _) kk
  · rename_i hz
    split at x
    · rename_i ps e
      have e1 := optAll_Rs (fun u d z r h => (uPair_d u d z r h).1) _ _ _ q e
      unfold lSort
      rw [show optAll dInt b = none from ?_]
      · simp only [e1]
        exact .okI x (Rs.of_pairs _) kk
      · cases a with
        | nil => exact absurd hz (by simp [optAll])
        | cons u us =>
          simp only [Rs] at q
          obtain ⟨d, ds, rfl, q, r⟩ := q
          unfold optAll at e
          split at e
          · rename_i ea eb
            unfold optAll
            rw [(uPair_d u d _ q ea).2]
          · cases e
    · exact x.elim⟩
end
end HV

/-! W1: the by-value walks by simp; rules of loops. -/
namespace HV
open PySem PySem.Spec PyProof.Rows L2 HA
/-- a step that the kernel looks at by itself -/
theorem nrfl {α : Sort u} {a b : α} (h : a = b) : a = b := h
/-- the whole numbers from a up to b -/
def rng (a b : Int) : List Int := (List.range (b - a).toNat).map fun (n : Nat) => a + n
theorem rng_u (a b : Int) : ((List.range (b - a).toNat).map fun (n : Nat) => U.int (a + n)) = (rng a b).map U.int := by simp [rng, Function.comp_def]
@[simp] theorem rng_length (a b : Int) : (rng a b).length = (b - a).toNat := by simp [rng]
@[simp] theorem mem_rng {a b x : Int} : x ∈ rng a b ↔ a ≤ x ∧ x < b := by
  unfold rng
  simp only [List.mem_map, List.mem_range]
  exact ⟨fun ⟨n, h, e⟩ => by omega, fun h => ⟨(x - a).toNat, by omega, by omega⟩⟩
theorem rng_get {a b x : Int} {i : Nat} (h : (rng a b)[i]? = some x) : x = a + i ∧ x < b := by
  unfold rng at h
  rw [List.getElem?_map] at h
  cases g : (List.range (b - a).toNat)[i]? with
  | none => rw [g] at h; cases h
  | some n =>
    rw [g] at h
    have hl := (List.getElem?_eq_some_iff.mp g).1
    rw [List.length_range] at hl
    rw [List.getElem?_range hl] at g
    cases g
    cases h
    exact ⟨rfl, by show a + (i : Int) < b; omega⟩
/-- what stands behind is not looked at till it is its turn: its type hangs on it -/
abbrev Dm {α : Sort u} (_ : α) : Type := Unit

def nxt (f : UEnv → Prop) (Γ : UEnv) (_ : Dm f) : Prop := f Γ
@[simp] theorem nxt_def (f : UEnv → Prop) (Γ : UEnv) (d : Dm f) : nxt f Γ d = f Γ := nrfl rfl
def oK {α : Type} (o : Option α) (k : α → Prop) (_ : Dm k) : Prop := match o with
  | some a => k a
  | none => False
def oV (o : Option (Option U)) (k : U → Prop) (_ : Dm k) : Prop := match o with
  | some (some u) => k u
  | _ => False
def oL (o : Option (Option U)) (k : List U → Prop) (_ : Dm k) : Prop := match o with
  | some (some (.lst xs)) => k xs
  | _ => False
def oDk (o : Option (Option U)) (k : List Key → List U → Prop) (_ : Dm k) : Prop := match o with
  | some (some (.dK ks us)) => k ks us
  | _ => False
def oI (u : U) (k : Int → Prop) (_ : Dm k) : Prop := match u with
  | .int q => k q
  | _ => False
def o2 (us : List U) (k : U → U → Prop) (_ : Dm k) : Prop := match us with
  | [x, y] => k x y
  | _ => False
@[simp] theorem o2_def (x y : U) (k : U → U → Prop) (d : Dm k) : o2 [x, y] k d = k x y := nrfl rfl
@[simp] theorem oK_some {α : Type} (a : α) (k : α → Prop) (d : Dm k) : oK (some a) k d = k a := nrfl rfl
@[simp] theorem oK_none {α : Type} (k : α → Prop) (d : Dm k) : oK none k d = False := nrfl rfl
@[simp] theorem oV_some (u : U) (k : U → Prop) (d : Dm k) : oV (some (some u)) k d = k u := nrfl rfl
@[simp] theorem oL_some (xs : List U) (k : List U → Prop) (d : Dm k) : oL (some (some (.lst xs))) k d = k xs := nrfl rfl
@[simp] theorem oDk_some (ks : List Key) (us : List U) (k : List Key → List U → Prop) (d : Dm k) : oDk (some (some (.dK ks us))) k d = k ks us := nrfl rfl
@[simp] theorem oI_int (i : Int) (k : Int → Prop) (d : Dm k) : oI (.int i) k d = k i := nrfl rfl
/-- a call -/
def cal (p : List U → ExK → (U → Prop) → Prop) (us : List U) (X : ExK) (k : U → Prop) (_ : Dm (X, k)) : Prop := p us X k
/-- loops -/
def forL (vt : VTM) (body : VS) (us : List U) (Γ : UEnv) (S : SK) (_ : Dm (body, S)) : Prop := vForL vt body us Γ S
def lcL (vt : VTM) (pt : VE Bool) (pe : VE U) (Γ : UEnv) (us : List U) (k : List U → Prop) (_ : Dm (pt, pe, k)) : Prop := vLcL vt pt pe Γ us k
def whL (pc : VE Bool) (body : VS) (n : Nat) (Γ : UEnv) (S : SK) (_ : Dm (pc, body, S)) : Prop := vWh pc body n Γ S
/-- a draw by any hand -/
def aD (b : Int) (k : U → Prop) (_ : Dm k) : Prop := ∀ v : Nat, (v : Int) < b → k (.int v)
section
variable {α β γ α' γ' : Type} (Γ : UEnv) (X : ExK)
@[simp ↓] theorem vVar_def (i : Nat) (k : U → Prop) : vVar i Γ X k = oV Γ[i]? k () := nrfl rfl
@[simp ↓] theorem vC_non (k : U → Prop) : vC .non Γ X k = k .non := nrfl rfl
@[simp ↓] theorem vC_int (i : Int) (k : U → Prop) : vC (.int i) Γ X k = k (.int i) := nrfl rfl
@[simp ↓] theorem vC_bl (i : Bool) (k : U → Prop) : vC (.bl i) Γ X k = k (.bl i) := nrfl rfl
@[simp ↓] theorem vC_str (i : Str) (k : U → Prop) : vC (.str i) Γ X k = k (.str i) := nrfl rfl
@[simp ↓] theorem vC_cst (i : V) (k : U → Prop) : vC (.cst i) Γ X k = k (.cst i) := nrfl rfl
theorem vC_def (d : D) (k : U → Prop) : vC d Γ X k = k (toU d) := rfl
@[simp] theorem toU_non : toU .non = .non := nrfl rfl
@[simp] theorem toU_bl (b : Bool) : toU (.bl b) = .bl b := nrfl rfl
@[simp] theorem toU_int (b : Int) : toU (.int b) = .int b := nrfl rfl
@[simp] theorem toU_str (b : Str) : toU (.str b) = .str b := nrfl rfl
@[simp] theorem toU_cst (b : V) : toU (.cst b) = .cst b := nrfl rfl
@[simp] theorem toU_ref (b : Nat) : toU (.ref b) = .ref b := nrfl rfl
@[simp] theorem toU_tup (b : List D) : toU (.tup b) = .tup (toUs b) := nrfl rfl
@[simp] theorem toUs_nil : toUs [] = [] := nrfl rfl
@[simp] theorem toUs_cons (d : D) (ds : List D) : toUs (d :: ds) = toU d :: toUs ds := nrfl rfl
@[simp ↓] theorem vCal_def (pa : VE (List U)) (f : List U → ExK → (U → Prop) → Prop) (k : U → Prop) : vCal pa f Γ X k = pa Γ X fun a => cal f a X k () := nrfl rfl
@[simp ↓] theorem v1_def (pa : VE α) (f : α → ExK → (γ → Prop) → Prop) (k : γ → Prop) : v1 pa f Γ X k = pa Γ X fun a => f a X k := nrfl rfl
@[simp ↓] theorem v2_def (pa : VE α) (pb : VE α') (f : α → α' → ExK → (γ → Prop) → Prop) (k : γ → Prop) : v2 pa pb f Γ X k = pa Γ X fun a => pb Γ X fun b => f a b X k := nrfl rfl
@[simp ↓] theorem v3_def (pa : VE α) (pb : VE α') (pc : VE γ') (f : α → α' → γ' → ExK → (γ → Prop) → Prop) (k : γ → Prop) : v3 pa pb pc f Γ X k = pa Γ X fun a => pb Γ X fun b => pc Γ X fun c => f a b c X k := nrfl rfl
@[simp ↓] theorem vaNil_def (k : List U → Prop) : vaNil Γ X k = k [] := nrfl rfl
@[simp ↓] theorem vaCons_def (p : VE U) (r : VE (List U)) (k : List U → Prop) : vaCons p r Γ X k = p Γ X fun u => r Γ X fun us => k (u :: us) := nrfl rfl
@[simp ↓] theorem vTup_def (p : VE (List U)) (k : U → Prop) : vTup p Γ X k = p Γ X fun us => us.length ≤ line ∧ k (.tup us) := nrfl rfl
@[simp ↓] theorem vLst_def (p : VE (List U)) (k : List U → Prop) : vLst p Γ X k = p Γ X fun us => us.length ≤ line ∧ k us := nrfl rfl
@[simp ↓] theorem vNew_def (p : VE (List U)) (k : U → Prop) : vNew p Γ X k = p Γ X fun us => k (.lst us) := nrfl rfl
@[simp ↓] theorem vB_def (p : VE Bool) (k : U → Prop) : vB p Γ X k = p Γ X fun b => k (.bl b) := nrfl rfl
@[simp ↓] theorem vAnd_def (a b : VE Bool) (k : Bool → Prop) : vAnd a b Γ X k = a Γ X fun t => if t = true then b Γ X k else k false := nrfl rfl
@[simp ↓] theorem vOr_def (a b : VE Bool) (k : Bool → Prop) : vOr a b Γ X k = a Γ X fun t => if t = true then k true else b Γ X k := nrfl rfl
@[simp ↓] theorem vNot_def (a : VE Bool) (k : Bool → Prop) : vNot a Γ X k = a Γ X fun t => k (!t) := nrfl rfl
@[simp ↓] theorem vYes_def (k : Bool → Prop) : vYes Γ X k = k true := nrfl rfl
@[simp ↓] theorem vEAnd_def (a b : VE U) (k : U → Prop) : vEAnd a b Γ X k = a Γ X fun u => vTruth u X fun t => if t = true then b Γ X k else k u := nrfl rfl
@[simp ↓] theorem vEOr_def (a b : VE U) (k : U → Prop) : vEOr a b Γ X k = a Γ X fun u => vTruth u X fun t => if t = true then k u else b Γ X k := nrfl rfl
@[simp ↓] theorem vENot_def (a : VE U) (k : U → Prop) : vENot a Γ X k = a Γ X fun u => vTruth u X fun t => k (.bl (!t)) := nrfl rfl
@[simp ↓] theorem vIf_def (c : VE Bool) (a b : VE α) (k : α → Prop) : vIf c a b Γ X k = c Γ X fun t => if t = true then a Γ X k else b Γ X k := nrfl rfl
@[simp ↓] theorem vChain_def (a b c : VE U) (f g : V2o Bool) (k : Bool → Prop) : vChain a b c f g Γ X k = a Γ X fun x => b Γ X fun y => f x y X fun t => if t = true then c Γ X fun z => g y z X k else k false := nrfl rfl
@[simp ↓] theorem vPart_none (k : Option Int → Prop) : vPart none Γ X k = k none := nrfl rfl
@[simp ↓] theorem vPart_some (p : VE U) (k : Option Int → Prop) : vPart (some p) Γ X k = p Γ X fun u => oI u (fun i => k (some i)) () := nrfl rfl
@[simp ↓] theorem vLc_def (pi : VE (List U)) (vt : VTM) (pt : VE Bool) (pe : VE U) (vs : List Nat) (k : List U → Prop) : vLc pi vt pt pe vs Γ X k = pi Γ X fun us => us.length ≤ line ∧ lcL vt pt pe (wipeU Γ vs) us k () := nrfl rfl
@[simp] theorem wipeU_nil : wipeU Γ [] = Γ := nrfl rfl
@[simp] theorem wipeU_cons (v : Nat) (vs : List Nat) : wipeU Γ (v :: vs) = (wipeU Γ vs).set v none := nrfl rfl
@[simp ↓] theorem vDnew_def (k : U → Prop) : vDnew Γ X k = k (.dK [] []) := nrfl rfl
/-! statements -/
variable (nx : UEnv → Prop) (rt : U → Prop) (bk ct : UEnv → Prop) (ex : Addr → EF → UEnv → Prop)
@[simp ↓] theorem vSkip_def : vSkip Γ ⟨nx, rt, bk, ct, ex⟩ = nx Γ := nrfl rfl
@[simp ↓] theorem vSeq_def (a b : VS) : vSeq a b Γ ⟨nx, rt, bk, ct, ex⟩ = a Γ ⟨fun Γ' => b Γ' ⟨nx, rt, bk, ct, ex⟩, rt, bk, ct, ex⟩ := nrfl rfl
@[simp ↓] theorem vRet_def (p : VE U) : vRet p Γ ⟨nx, rt, bk, ct, ex⟩ = p Γ (fun a f => ex a f Γ) rt := nrfl rfl
@[simp ↓] theorem vRetN_def : vRetN Γ ⟨nx, rt, bk, ct, ex⟩ = rt .non := nrfl rfl
@[simp ↓] theorem vExpr_def (p : VE U) : vExpr p Γ ⟨nx, rt, bk, ct, ex⟩ = p Γ (fun a f => ex a f Γ) fun _ => nx Γ := nrfl rfl
@[simp ↓] theorem vAsg_def (own : List Nat) (p : VE U) (t : VTM) : vAsg own p t Γ ⟨nx, rt, bk, ct, ex⟩ = p (eraseU own Γ) (fun a f => ex a f Γ) fun u => oK (t u) (fun bs => nxt nx (setU Γ bs) ()) () := by
  unfold vAsg
  congr 1; funext u; cases t u <;> rfl
@[simp ↓] theorem vAsgF_def (p : VE U) (t : VTM) : vAsgF p t Γ ⟨nx, rt, bk, ct, ex⟩ = p Γ (fun a f => ex a f Γ) fun u => u.flat = true ∧ oK (t u) (fun bs => nxt nx (setU Γ bs) ()) () := by
  unfold vAsgF
  congr 1; funext u; congr 1; cases t u <;> rfl
@[simp ↓] theorem vAsgN_def (own : List Nat) (p : VE U) (i : Nat) : vAsgN own p i Γ ⟨nx, rt, bk, ct, ex⟩ = (i < Γ.length ∧ p (eraseU own Γ) (fun a f => ex a f Γ) fun u => nxt nx (Γ.set i (some u)) ()) := nrfl rfl
@[simp ↓] theorem vIfS_def (c : VE Bool) (a b : VS) : vIfS c a b Γ ⟨nx, rt, bk, ct, ex⟩ = c Γ (fun a f => ex a f Γ) fun t => if t = true then a Γ ⟨nx, rt, bk, ct, ex⟩ else b Γ ⟨nx, rt, bk, ct, ex⟩ := nrfl rfl
@[simp ↓] theorem vBk_def : vBk Γ ⟨nx, rt, bk, ct, ex⟩ = bk Γ := nrfl rfl
@[simp ↓] theorem vCt_def : vCt Γ ⟨nx, rt, bk, ct, ex⟩ = ct Γ := nrfl rfl
@[simp ↓] theorem vFor_def (own : List Nat) (pi : VE (List U)) (vt : VTM) (body : VS) : vFor own pi vt body Γ ⟨nx, rt, bk, ct, ex⟩ = pi (eraseU own Γ) (fun a f => ex a f Γ) fun us => forL vt body us Γ ⟨nx, rt, bk, ct, ex⟩ () := nrfl rfl
@[simp ↓] theorem vForB_def (own : List Nat) (pi : VE (List U)) (vt : VTM) (body : VS) : vForB own pi vt body Γ ⟨nx, rt, bk, ct, ex⟩ = pi (eraseU own Γ) (fun a f => ex a f Γ) fun us => us.length ≤ line ∧ forL vt body us Γ ⟨nx, rt, bk, ct, ex⟩ () := nrfl rfl
@[simp ↓] theorem vPar2_def (own : List Nat) (i j : Nat) (p : VE (List U)) : vPar2 own i j p Γ ⟨nx, rt, bk, ct, ex⟩ = p (eraseU own Γ) (fun a f => ex a f Γ) fun us => o2 us (fun x y => nxt nx ((Γ.set i (some x)).set j (some y)) ()) () := nrfl rfl
@[simp ↓] theorem vMtS_def (own : List Nat) (i : Nat) (pa : VE (List U)) (vf : VMt) : vMtS own i pa vf Γ ⟨nx, rt, bk, ct, ex⟩ = vMt own i pa vf Γ (fun a f => ex a f Γ) fun _ Γ' => nx Γ' := nrfl rfl
@[simp ↓] theorem vMtSF_def (i : Nat) (pa : VE (List U)) (vf : VMt) : vMtSF i pa vf Γ ⟨nx, rt, bk, ct, ex⟩ = vMtF i pa vf Γ (fun a f => ex a f Γ) fun _ Γ' => nx Γ' := nrfl rfl
@[simp ↓] theorem vMtA_def (own : List Nat) (i : Nat) (pa : VE (List U)) (vf : VMt) (j : Nat) : vMtA own i pa vf j Γ ⟨nx, rt, bk, ct, ex⟩ = vMt own i pa vf Γ (fun a f => ex a f Γ) fun r Γ' => nxt nx (Γ'.set j (some r)) () := nrfl rfl
@[simp ↓] theorem vMtAF_def (i : Nat) (pa : VE (List U)) (vf : VMt) (j : Nat) : vMtAF i pa vf j Γ ⟨nx, rt, bk, ct, ex⟩ = vMtF i pa vf Γ (fun a f => ex a f Γ) fun r Γ' => nxt nx (Γ'.set j (some r)) () := nrfl rfl
@[simp ↓] theorem vMt_def (own : List Nat) (i : Nat) (pa : VE (List U)) (vf : VMt) (k : U → UEnv → Prop) : vMt own i pa vf Γ X k = oL Γ[i]? (fun xs => pa (eraseU own Γ) X fun us => vf (.lst xs) us fun r u' => nxt (k r) (Γ.set i (some u')) ()) () := nrfl rfl
@[simp ↓] theorem vMtF_def (i : Nat) (pa : VE (List U)) (vf : VMt) (k : U → UEnv → Prop) : vMtF i pa vf Γ X k = oL Γ[i]? (fun xs => pa Γ X fun us => U.flats us = true ∧ vf (.lst xs) us fun r u' => nxt (k r) (Γ.set i (some u')) ()) () := nrfl rfl
theorem setL_oL (o : Option (Option U)) (kd : U) (f : List U → Nat → Prop) : (match o, kd with
  | some (some (.lst xs)), .int q => match ixN xs.length q with
    | some j => f xs j
    | none => False
  | _, _ => False) = oL o (fun xs => oI kd (fun q => oK (ixN xs.length q) (fun j => f xs j) ()) ()) () := by
  unfold oL oI oK
  match o, kd with
  | some (some (.lst xs)), .int q => simp only; cases ixN xs.length q <;> rfl
  | none, kd => rfl
  | some none, kd => rfl
  | some (some (.lst xs)), .non => rfl
  | some (some (.lst xs)), .bl _ => rfl
  | some (some (.lst xs)), .str _ => rfl
  | some (some (.lst xs)), .tup _ => rfl
  | some (some (.lst xs)), .lst _ => rfl
  | some (some (.lst xs)), .dK _ _ => rfl
  | some (some (.lst xs)), .dT _ _ => rfl
  | some (some (.lst xs)), .ins _ _ _ => rfl
  | some (some (.lst xs)), .ref _ => rfl
  | some (some (.lst xs)), .cst _ => rfl
  | some (some .non), _ => rfl
  | some (some (.bl _)), _ => rfl
  | some (some (.int _)), _ => rfl
  | some (some (.str _)), _ => rfl
  | some (some (.tup _)), _ => rfl
  | some (some (.dK _ _)), _ => rfl
  | some (some (.dT _ _)), _ => rfl
  | some (some (.ins _ _ _)), _ => rfl
  | some (some (.ref _)), _ => rfl
  | some (some (.cst _)), _ => rfl
@[simp ↓] theorem vSetL_def (own : List Nat) (i : Nat) (pi pv : VE U) : vSetL own i pi pv Γ ⟨nx, rt, bk, ct, ex⟩ = pv (eraseU own Γ) (fun a f => ex a f Γ) fun v => pi Γ (fun a f => ex a f Γ) fun kd => oL Γ[i]? (fun xs => oI kd (fun q => oK (ixN xs.length q) (fun j => nxt nx (Γ.set i (some (.lst (xs.set j v)))) ()) ()) ()) () := by
  unfold vSetL
  congr 1; funext v; congr 1; funext kd
  exact setL_oL Γ[i]? kd fun xs j => nx (Γ.set i (some (.lst (xs.set j v))))
@[simp ↓] theorem vSetLF_def (i : Nat) (pi pv : VE U) : vSetLF i pi pv Γ ⟨nx, rt, bk, ct, ex⟩ = pv Γ (fun a f => ex a f Γ) fun v => v.flat = true ∧ pi Γ (fun a f => ex a f Γ) fun kd => oL Γ[i]? (fun xs => oI kd (fun q => oK (ixN xs.length q) (fun j => nxt nx (Γ.set i (some (.lst (xs.set j v)))) ()) ()) ()) () := by
  unfold vSetLF
  congr 1; funext v; congr 1; congr 1; funext kd
  exact setL_oL Γ[i]? kd fun xs j => nx (Γ.set i (some (.lst (xs.set j v))))
@[simp ↓] theorem vPut_def (own : List Nat) (i : Nat) (pi pv : VE U) : vPut own i pi pv Γ ⟨nx, rt, bk, ct, ex⟩ = pv (eraseU own Γ) (fun a f => ex a f Γ) fun v => pi Γ (fun a f => ex a f Γ) fun kd => oDk Γ[i]? (fun ks us => oK (uKey kd) (fun kk => ks.length < line ∧ nxt nx (Γ.set i (some (uPut ks us kk v))) ()) ()) () := by
  unfold vPut oDk oK
  congr 1; funext v; congr 1; funext kd
  generalize Γ[i]? = o
  match o with
  | none => rfl
  | some none => rfl
  | some (some (.dK ks us)) => cases uKey kd <;> rfl
  | some (some .non) => rfl
  | some (some (.bl _)) => rfl
  | some (some (.int _)) => rfl
  | some (some (.str _)) => rfl
  | some (some (.tup _)) => rfl
  | some (some (.lst _)) => rfl
  | some (some (.dT _ _)) => rfl
  | some (some (.ins _ _ _)) => rfl
  | some (some (.ref _)) => rfl
  | some (some (.cst _)) => rfl
@[simp ↓] theorem vFn_def (n ar : Nat) (pb : VS) (us : List U) (k : U → Prop) : vFn n ar pb us X k = (us.length = ar ∧ nxt (fun Γ => pb Γ ⟨fun _ => k .non, k, fun _ => False, fun _ => False, fun a f _ => X a f⟩) (us.map some ++ List.replicate (n - us.length) none) ()) := nrfl rfl
@[simp ↓] theorem vFnN_def (n ar : Nat) (pb : VS) (us : List U) (k : U → Prop) : vFnN n ar pb us X k = (us.length = ar ∧ nxt (fun Γ => pb Γ ⟨fun _ => False, k, fun _ => False, fun _ => False, fun a f _ => X a f⟩) (us.map some ++ List.replicate (n - us.length) none) ()) := nrfl rfl
@[simp] theorem eraseU_nil : eraseU [] Γ = Γ := nrfl rfl
@[simp] theorem eraseU_cons (i : Nat) (r : List Nat) : eraseU (i :: r) Γ = eraseU r (Γ.set i none) := nrfl rfl
@[simp] theorem setU_nil : setU Γ [] = Γ := nrfl rfl
@[simp] theorem setU_cons (i : Nat) (u : U) (r : List (Nat × U)) : setU Γ ((i, u) :: r) = setU (Γ.set i (some u)) r := nrfl rfl
@[simp] theorem tSet_def (i : Nat) (u : U) : tSet i u = some [(i, u)] := nrfl rfl
@[simp] theorem tNil_def : tNil [] = some [] := nrfl rfl
@[simp] theorem tCons_def (t : VTM) (r : List U → Option (List (Nat × U))) (u : U) (us : List U) : tCons t r (u :: us) = (t u).bind fun a => (r us).map fun b => a ++ b := nrfl rfl
@[simp] theorem tTup_def (n : Nat) (r : List U → Option (List (Nat × U))) (us : List U) : tTup n r (.tup us) = if us.length = n then r us else none := nrfl rfl
@[simp] theorem tStar_def (n : Nat) (r : List U → Option (List (Nat × U))) (us : List U) : tStar n r (.tup us) = if n ≤ us.length then r (us.take n ++ [.lst (us.drop n)]) else none := nrfl rfl
/-! operations -/
variable (k : U → Prop) (kb : Bool → Prop) (kl : List U → Prop)
@[simp ↓] theorem vAdd_int (i j : Int) : vAdd (.int i) (.int j) X k = k (.int (i + j)) := nrfl rfl
@[simp ↓] theorem vAddA_int (i j : Int) : vAddA (.int i) (.int j) X k = k (.int (i + j)) := nrfl rfl
@[simp ↓] theorem vAdd_tup (i j : List U) : vAdd (.tup i) (.tup j) X k = (i.length + j.length ≤ line ∧ k (.tup (i ++ j))) := nrfl rfl
@[simp ↓] theorem vAddA_tup (i j : List U) : vAddA (.tup i) (.tup j) X k = (i.length + j.length ≤ line ∧ k (.tup (i ++ j))) := nrfl rfl
@[simp ↓] theorem vAdd_str (i j : Str) : vAdd (.str i) (.str j) X k = (i.length + j.length ≤ line ∧ k (.str (i ++ j))) := nrfl rfl
@[simp ↓] theorem vAddA_lst (i j : List U) : vAddA (.lst i) (.lst j) X k = (i.length + j.length ≤ line ∧ k (.lst (i ++ j))) := nrfl rfl
@[simp ↓] theorem vSub_int (i j : Int) : vSub (.int i) (.int j) X k = k (.int (i - j)) := nrfl rfl
@[simp ↓] theorem vNeg_int (i : Int) : vNeg (.int i) X k = k (.int (-i)) := nrfl rfl
@[simp ↓] theorem vMul_int (i j : Int) : vMul (.int i) (.int j) X k = (mulOk i j = true ∧ k (.int (i * j))) := nrfl rfl
@[simp ↓] theorem vMul_tup (i : List U) (j : Int) : vMul (.tup i) (.int j) X k = ((i ≠ [] ∧ 1 ≤ j ∧ j ≤ 1000 ∧ i.length ≤ 1000) ∧ k (.tup (List.replicate j.toNat i).flatten)) := nrfl rfl
@[simp ↓] theorem vMulI_int (i j : Int) : vMulI (.int i) (.int j) X k = (mulOk i j = true ∧ k (.int (i * j))) := nrfl rfl
@[simp ↓] theorem vFdiv_int (i j : Int) : vFdiv (.int i) (.int j) X k = ((0 < j ∧ j.natAbs.log2 < 9000) ∧ k (.int (i / j))) := nrfl rfl
@[simp ↓] theorem vMod_int (i j : Int) : vMod (.int i) (.int j) X k = (0 < j ∧ k (.int (i % j))) := nrfl rfl
@[simp ↓] theorem vPow_int (i j : Int) : vPow (.int i) (.int j) X k = ((0 ≤ j ∧ j ≤ 1000000 ∧ i.natAbs < 2 ^ 64) ∧ k (.int (i ^ j.toNat))) := nrfl rfl
@[simp ↓] theorem vEq_int (i j : Int) : vEq (.int i) (.int j) X kb = kb (decide (i = j)) := nrfl rfl
@[simp ↓] theorem vEq_str (i j : Str) : vEq (.str i) (.str j) X kb = kb (decide (i = j)) := nrfl rfl
@[simp ↓] theorem vEq_bl (i j : Bool) : vEq (.bl i) (.bl j) X kb = kb (decide (i = j)) := nrfl rfl
@[simp ↓] theorem vEq_nil (us : List U) : vEq (.tup us) (.tup []) X kb = kb us.isEmpty := by
  cases us <;> rfl
@[simp ↓] theorem vNe_def (a b : U) : vNe a b X kb = vEq a b X fun t => kb (!t) := nrfl rfl
@[simp ↓] theorem vLt_int (i j : Int) : vLt (.int i) (.int j) X kb = kb (decide (i < j)) := nrfl rfl
@[simp ↓] theorem vLe_int (i j : Int) : vLe (.int i) (.int j) X kb = kb (decide (i ≤ j)) := nrfl rfl
@[simp ↓] theorem vGt_int (i j : Int) : vGt (.int i) (.int j) X kb = kb (decide (j < i)) := nrfl rfl
@[simp ↓] theorem vGe_int (i j : Int) : vGe (.int i) (.int j) X kb = kb (decide (j ≤ i)) := nrfl rfl
@[simp ↓] theorem vTruth_bl (b : Bool) : vTruth (.bl b) X kb = kb b := nrfl rfl
@[simp ↓] theorem vTruth_non : vTruth .non X kb = kb false := nrfl rfl
@[simp ↓] theorem vTruth_int (i : Int) : vTruth (.int i) X kb = kb (i != 0) := nrfl rfl
@[simp ↓] theorem vTruth_tup (us : List U) : vTruth (.tup us) X kb = kb (!us.isEmpty) := nrfl rfl
@[simp ↓] theorem vTruth_lst (us : List U) : vTruth (.lst us) X kb = kb (!us.isEmpty) := nrfl rfl
@[simp ↓] theorem vTruth_str (z : Str) : vTruth (.str z) X kb = (z.length ≤ line ∧ kb ((z.length : Int) != 0)) := nrfl rfl
@[simp ↓] theorem vIs_non (u : U) : vIs u .non X kb = kb (uNon u) := by cases u <;> rfl
@[simp ↓] theorem vIs_bl (a b : Bool) : vIs (.bl a) (.bl b) X kb = kb (decide (a = b)) := nrfl rfl
@[simp ↓] theorem vIsNot_def (a b : U) : vIsNot a b X kb = vIs a b X fun t => kb (!t) := nrfl rfl
@[simp ↓] theorem vNotIn_def (a b : U) : vNotIn a b X kb = vIn a b X fun t => kb (!t) := nrfl rfl
@[simp ↓] theorem vIn_str (a b : Str) : vIn (.str a) (.str b) X kb = kb (strIn a b) := nrfl rfl
@[simp] theorem uNon_non : uNon .non = true := nrfl rfl
@[simp] theorem uNon_int (i : Int) : uNon (.int i) = false := nrfl rfl
@[simp] theorem uNon_bl (i : Bool) : uNon (.bl i) = false := nrfl rfl
@[simp] theorem uNon_str (i : Str) : uNon (.str i) = false := nrfl rfl
@[simp] theorem uNon_tup (i : List U) : uNon (.tup i) = false := nrfl rfl
@[simp] theorem uNon_lst (i : List U) : uNon (.lst i) = false := nrfl rfl
@[simp ↓] theorem vListOf_lst (us : List U) : vListOf (.lst us) X kl = kl us := nrfl rfl
@[simp ↓] theorem vSeqOf_lst (us : List U) : vSeqOf (.lst us) X kl = kl us := nrfl rfl
@[simp ↓] theorem vSeqOf_tup (us : List U) : vSeqOf (.tup us) X kl = kl us := nrfl rfl
@[simp ↓] theorem vLenA_def (u : U) : vLenA [u] X k = vLen u X k := nrfl rfl
@[simp ↓] theorem vLen_tup (us : List U) : vLen (.tup us) X k = k (.int us.length) := nrfl rfl
@[simp ↓] theorem vLen_lst (us : List U) : vLen (.lst us) X k = k (.int us.length) := nrfl rfl
@[simp ↓] theorem vLen_str (z : Str) : vLen (.str z) X k = (z.length ≤ line ∧ k (.int z.length)) := nrfl rfl
@[simp ↓] theorem vIsi_def (u : U) (T : String) : vIsi [u, .cst (.ty T)] X k = oK (uName u) (fun a => T ∈ tyTable ∧ k (.bl (tyIs a T))) () := by
  unfold vIsi; simp only; cases uName u <;> rfl
@[simp] theorem uName_non : uName .non = some "NoneType" := nrfl rfl
@[simp] theorem uName_bl (b : Bool) : uName (.bl b) = some "bool" := nrfl rfl
@[simp] theorem uName_int (b : Int) : uName (.int b) = some "int" := nrfl rfl
@[simp] theorem uName_str (b : Str) : uName (.str b) = some "str" := nrfl rfl
@[simp] theorem uName_tup (b : List U) : uName (.tup b) = some "tuple" := nrfl rfl
@[simp] theorem uName_lst (b : List U) : uName (.lst b) = some "list" := nrfl rfl
@[simp] theorem uName_dK (a : List Key) (b : List U) : uName (.dK a b) = some "dict" := nrfl rfl
@[simp] theorem tyT_bool : "bool" ∈ tyTable := by decide
@[simp] theorem tyT_int : "int" ∈ tyTable := by decide
@[simp] theorem tyT_str : "str" ∈ tyTable := by decide
@[simp] theorem tyT_tup : "tuple" ∈ tyTable := by decide
@[simp] theorem tyT_lst : "list" ∈ tyTable := by decide
@[simp] theorem tyT_dict : "dict" ∈ tyTable := by decide
@[simp ↓] theorem vTupOf_def (us : List U) : vTupOf us X k = k (.tup us) := nrfl rfl
@[simp ↓] theorem vId_def (us : List U) : vId us X kl = kl us := nrfl rfl
@[simp ↓] theorem vRevL_def (us : List U) : vRevL us X kl = kl us.reverse := nrfl rfl
@[simp ↓] theorem vRevT_def (us : List U) : vRevT (.tup us) X k = k (.tup us.reverse) := nrfl rfl
@[simp ↓] theorem vIx_tup (us : List U) (i : Int) : vIx (.tup us) (.int i) X k = oK (ixD us i) k () := by
  unfold vIx; simp only; cases ixD us i <;> rfl
@[simp ↓] theorem vIx_lst (us : List U) (i : Int) : vIx (.lst us) (.int i) X k = oK (ixD us i) k () := by
  unfold vIx; simp only; cases ixD us i <;> rfl
@[simp ↓] theorem vLIx_def (us : List U) (i : Int) : vLIx us (.int i) X k = oK (ixD us i) k () := by
  unfold vLIx; simp only; cases ixD us i <;> rfl
@[simp ↓] theorem vCut_def (us : List U) (lo hi : Option Int) : vCut (.tup us) lo hi X k = k (.tup (HA.cut us lo hi)) := nrfl rfl
@[simp ↓] theorem vLCut_def (us : List U) (lo hi : Option Int) : vLCut (.lst us) lo hi X kl = kl (HA.cut us lo hi) := nrfl rfl
@[simp ↓] theorem vCat_def (xs ys : List U) : vCat xs ys X kl = (xs.length + ys.length ≤ line ∧ kl (xs ++ ys)) := nrfl rfl
@[simp ↓] theorem vRep_def (xs : List U) (n : Int) : vRep xs (.int n) X kl = ((-(2 ^ 63) ≤ n ∧ n < 2 ^ 63 ∧ xs.length * n.toNat ≤ line) ∧ kl (List.replicate n.toNat xs).flatten) := nrfl rfl
@[simp] theorem vNil_nil (neg : Bool) : vNil neg [] X kb = kb (!neg) := nrfl rfl
theorem vNil_cons (neg : Bool) (u : U) (us : List U) : vNil neg (u :: us) X kb = match optAll (uP 62) (u :: us) with
    | some ps => SeqAt.shaped (.list ps) = true ∧ kb neg
    | none => False := rfl
@[simp ↓] theorem vRange1_def (j : Int) : vRange1 (.int j) X kl = vRange 0 j kl := nrfl rfl
@[simp ↓] theorem vRange2_def (i j : Int) : vRange2 (.int i) (.int j) X kl = vRange i j kl := nrfl rfl
@[simp ↓] theorem vIR1_def (j : Int) : vIR1 (.int j) X kl = vIR 0 j kl := nrfl rfl
@[simp ↓] theorem vIR2_def (i j : Int) : vIR2 (.int i) (.int j) X kl = vIR i j kl := nrfl rfl
@[simp ↓] theorem vRange_def (i j : Int) : vRange i j kl = ((-(2 ^ 62) ≤ i ∧ i < 2 ^ 62 ∧ -(2 ^ 62) ≤ j ∧ j < 2 ^ 62 ∧ (j - i).toNat ≤ 2 ^ 24) ∧ kl ((rng i j).map U.int)) := by rw [← rng_u]; rfl
@[simp ↓] theorem vIR_def (i j : Int) : vIR i j kl = ((-(2 ^ 62) ≤ i ∧ i < 2 ^ 62 ∧ -(2 ^ 62) ≤ j ∧ j < 2 ^ 62) ∧ kl ((rng i j).map U.int)) := by rw [← rng_u]; rfl
@[simp ↓] theorem vStr_int (i : Int) : vStr [.int i] X k = (i.natAbs.log2 < 1920 ∧ k (.str (toString i))) := nrfl rfl
@[simp ↓] theorem vStr_str (i : Str) : vStr [.str i] X k = k (.str i) := nrfl rfl
@[simp ↓] theorem vInt_int (i : Int) : vInt [.int i] X k = k (.int i) := nrfl rfl
@[simp ↓] theorem vInt_bl (b : Bool) : vInt [.bl b] X k = k (.int (if b then 1 else 0)) := nrfl rfl
@[simp ↓] theorem vMin_def (i j : Int) : vMin [.int i, .int j] X k = k (.int (if j < i then j else i)) := nrfl rfl
@[simp ↓] theorem vMax_def (i j : Int) : vMax [.int i, .int j] X k = k (.int (if j > i then j else i)) := nrfl rfl
theorem vRepr_def (u : U) : vRepr [u] X k = oK (uP 63 u) (fun p => ShowOk p ∧ k (.str p.shown)) () := by
  unfold vRepr; simp only; cases uP 63 u <;> rfl
@[simp] theorem uKey_int (i : Int) : uKey (.int i) = some (.inl i) := nrfl rfl
@[simp] theorem uKey_str (i : Str) : uKey (.str i) = some (.inr i) := nrfl rfl
@[simp] theorem line_def : line = 16777216 := nrfl rfl
@[simp ↓] theorem vDraw_def (b : Int) : vDraw [.ref 2, .int b] X k = ((0 < b ∧ b < 2 ^ 250) ∧ aD b k ()) := nrfl rfl
@[simp ↓] theorem vAppend_def (xs : List U) (y : U) (f : U → U → Prop) : vAppend (.lst xs) [y] f = (xs.length < line ∧ f .non (.lst (xs ++ [y]))) := nrfl rfl
@[simp ↓] theorem vIn_dK (ks : List Key) (us : List U) (i : Int) : vIn (.int i) (.dK ks us) X kb = kb (ks.any fun z => decide (z = .inl i)) := nrfl rfl
@[simp ↓] theorem vMaxD_def (us : List U) (d : Int) : vMaxD [.lst us] [.int d] X k = oK (optAll uInt us) (fun ns => k (.int (maxOf ns d))) () := by
  unfold vMaxD; simp only; cases optAll uInt us <;> rfl
@[simp] theorem ixD_eq {α : Type} (xs : List α) (i : Int) : ixD xs i = if 0 ≤ i then xs[i.toNat]? else if -(xs.length : Int) ≤ i then xs[(i + xs.length).toNat]? else none := by
  unfold ixD ixN
  by_cases h : 0 ≤ i
  · rw [if_pos h, if_pos h]
    by_cases h1 : i < xs.length
    · rw [if_pos h1]; rfl
    · rw [if_neg h1]
      rw [List.getElem?_eq_none (by omega)]
      rfl
  · rw [if_neg h, if_neg h]
    by_cases h1 : -(xs.length : Int) ≤ i
    · rw [if_pos h1, if_pos h1]; rfl
    · rw [if_neg h1, if_neg h1]; rfl
end
theorem ints_optAll (ns : List Int) : optAll uInt (ns.map U.int) = some ns := by
  induction ns with
  | nil => rfl
  | cons n ns ih => simp [optAll, uInt, ih]
theorem bools_optAll (ns : List Bool) : optAll uBool (ns.map U.bl) = some ns := by
  induction ns with
  | nil => rfl
  | cons n ns ih => simp [optAll, uBool, ih]
@[simp] theorem vSum_ints (ns : List Int) (X : ExK) (k : U → Prop) : vSum (ns.map U.int) X k = k (.int ns.sum) := by unfold vSum; rw [ints_optAll]
@[simp] theorem vAll_bools (ns : List Bool) (X : ExK) (k : U → Prop) : vAll (ns.map U.bl) X k = k (.bl (ns.all id)) := by unfold vAll; rw [bools_optAll]
@[simp] theorem vAny_bools (ns : List Bool) (X : ExK) (k : U → Prop) : vAny (ns.map U.bl) X k = k (.bl (ns.any id)) := by unfold vAny; rw [bools_optAll]
@[simp] theorem vSum_map {α : Type} (f : α → Int) (xs : List α) (X : ExK) (k : U → Prop) : vSum (xs.map fun x => U.int (f x)) X k = k (.int (xs.map f).sum) := by
  have := vSum_ints (xs.map f) X k
  simpa [Function.comp_def] using this
@[simp] theorem vAll_map {α : Type} (f : α → Bool) (xs : List α) (X : ExK) (k : U → Prop) : vAll (xs.map fun x => U.bl (f x)) X k = k (.bl (xs.all f)) := by
  have := vAll_bools (xs.map f) X k
  simpa [Function.comp_def, List.all_map] using this
@[simp] theorem vAny_map {α : Type} (f : α → Bool) (xs : List α) (X : ExK) (k : U → Prop) : vAny (xs.map fun x => U.bl (f x)) X k = k (.bl (xs.any f)) := by
  have := vAny_bools (xs.map f) X k
  simpa [Function.comp_def, List.any_map] using this
@[simp] theorem vAll_nil (X : ExK) (k : U → Prop) : vAll [] X k = k (.bl true) := nrfl rfl
/-! loops -/
inductive All2 {α β : Type} (Q : α → β → Prop) : List α → List β → Prop where
  | nil : All2 Q [] []
  | cons {a : α} {b : β} {as : List α} {bs : List β} : Q a b → All2 Q as bs → All2 Q (a :: as) (b :: bs)
theorem All2.len {α β : Type} {Q : α → β → Prop} {as : List α} {bs : List β} (h : All2 Q as bs) : as.length = bs.length := by
  induction h with
  | nil => rfl
  | cons _ _ ih => simp [ih]
/-- a comprehension that draws nothing -/
theorem vLcL_map {α : Type} {vt : VTM} {pt : VE Bool} {pe : VE U} {Γ : UEnv} (g : α → U) (p : α → Bool) (f : α → U) : ∀ (xs : List α) (k : List U → Prop), (∀ x, x ∈ xs → ∃ bs, vt (g x) = some bs ∧ (∀ k, pt (setU Γ bs) XF k = k (p x)) ∧ (p x = true → ∀ k, pe (setU Γ bs) XF k = k (f x))) → vLcL vt pt pe Γ (xs.map g) k = k ((xs.filter p).map f)
  | [], k, _ => rfl
  | x :: xs, k, h => by
    obtain ⟨bs, h1, h2, h3⟩ := h x List.mem_cons_self
    have ih := fun k => vLcL_map g p f xs k fun y hy => h y (List.mem_cons_of_mem _ hy)
    rw [List.map_cons]
    unfold vLcL
    rw [h1]
    simp only
    rw [h2]
    cases hp : p x with
    | true => simp [h3 hp, ih, hp]
    | false => simp [ih, hp]
/-- .. that draws: each item is one that Q knows -/
theorem vLcL_all {vt : VTM} {pe : VE U} {Γ : UEnv} (Q : U → U → Prop) : ∀ (us : List U) (k : List U → Prop), (∀ u, u ∈ us → ∃ bs, vt u = some bs ∧ ∀ k : U → Prop, (∀ y, Q u y → k y) → pe (setU Γ bs) XF k) → (∀ ys, All2 Q us ys → k ys) → vLcL vt vYes pe Γ us k
  | [], k, _, hk => hk [] .nil
  | u :: us, k, h, hk => by
    obtain ⟨bs, h1, h2⟩ := h u List.mem_cons_self
    unfold vLcL
    rw [h1]
    simp only [vYes_def, if_true]
    exact h2 _ fun y hy => vLcL_all Q us _ (fun v hv => h v (List.mem_cons_of_mem _ hv)) fun ys hys => hk _ (.cons hy hys)
theorem vForL_inv {vt : VTM} {body : VS} {S : SK} (I : Nat → UEnv → Prop) (B : UEnv → Prop) : ∀ (us : List U) (j : Nat) (Γ : UEnv), I j Γ →
    (∀ (i : Nat) (u : U) (Γ : UEnv) (nx bk : UEnv → Prop), us[i]? = some u → I (j + i) Γ → (∀ Γ', I (j + i + 1) Γ' → nx Γ') → (∀ Γ', B Γ' → bk Γ') → ∃ bs, vt u = some bs ∧ body (setU Γ bs) ⟨nx, S.rt, bk, nx, S.ex⟩) →
    (∀ Γ', I (j + us.length) Γ' → S.nx Γ') → (∀ Γ', B Γ' → S.nx Γ') → vForL vt body us Γ S
  | [], j, Γ, h0, _, hn, _ => hn Γ h0
  | u :: us, j, Γ, h0, hs, hn, hB => by
    obtain ⟨bs, h1, h2⟩ := hs 0 u Γ (fun Γ' => vForL vt body us Γ' S) S.nx rfl h0 (fun Γ' hi => by
      refine vForL_inv I B us (j + 1) Γ' hi (fun i v Γ nx bk hv hI hnx hbk => ?_) (fun Γ' hI => hn Γ' ?_) hB
      · exact hs (i + 1) v Γ nx bk hv (by rw [show j + (i + 1) = j + 1 + i by omega]; exact hI) (fun Γ' hI => hnx Γ' (by rw [show j + 1 + i + 1 = j + (i + 1) + 1 by omega]; exact hI)) hbk
      · rw [List.length_cons, show j + (us.length + 1) = j + 1 + us.length by omega]; exact hI) hB
    unfold vForL
    rw [h1]
    exact h2
/-- a loop without break -/
theorem vForL_go {vt : VTM} {body : VS} {S : SK} {Γ : UEnv} {us : List U} (I : Nat → UEnv → Prop) (h0 : I 0 Γ) (hs : ∀ (i : Nat) (u : U) (Γ : UEnv) (nx bk : UEnv → Prop), us[i]? = some u → I i Γ → (∀ Γ', I (i + 1) Γ' → nx Γ') → ∃ bs, vt u = some bs ∧ body (setU Γ bs) ⟨nx, S.rt, bk, nx, S.ex⟩)
    (hn : ∀ Γ', I us.length Γ' → S.nx Γ') : vForL vt body us Γ S :=
  vForL_inv I (fun _ => False) us 0 Γ h0 (fun i u Γ nx bk h1 h2 h3 _ => hs i u Γ nx bk h1 (by simpa using h2) (by simpa using h3)) (by simpa using hn) (fun _ h => h.elim)
/-- .. over data of a kind -/
theorem vForL_goM {α : Type} {vt : VTM} {body : VS} {S : SK} {Γ : UEnv} (g : α → U) {xs : List α} (I : Nat → UEnv → Prop) (h0 : I 0 Γ) (hs : ∀ (i : Nat) (x : α) (Γ : UEnv) (nx bk : UEnv → Prop), xs[i]? = some x → I i Γ → (∀ Γ', I (i + 1) Γ' → nx Γ') → ∃ bs, vt (g x) = some bs ∧ body (setU Γ bs) ⟨nx, S.rt, bk, nx, S.ex⟩)
    (hn : ∀ Γ', I xs.length Γ' → S.nx Γ') : vForL vt body (xs.map g) Γ S :=
  vForL_go I h0 (fun i u Γ nx bk h1 h2 h3 => by
    rw [List.getElem?_map] at h1
    cases hx : xs[i]? with
    | none => rw [hx] at h1; cases h1
    | some x => rw [hx] at h1; cases h1; exact hs i x Γ nx bk hx h2 h3) (by simpa using hn)
/-- a comprehension without a test that draws nothing -/
theorem vLcL_map1 {α : Type} {vt : VTM} {pe : VE U} {Γ : UEnv} (g : α → U) (f : α → U) (xs : List α) (k : List U → Prop) (h : ∀ x, x ∈ xs → ∃ bs, vt (g x) = some bs ∧ (∀ k, pe (setU Γ bs) XF k = k (f x))) : vLcL vt vYes pe Γ (xs.map g) k = k (xs.map f) := by
  rw [vLcL_map g (fun _ => true) f xs k fun x hx => let ⟨bs, h1, h2⟩ := h x hx; ⟨bs, h1, fun _ => rfl, fun _ => h2⟩]
  rw [List.filter_eq_self.mpr fun _ _ => rfl]
theorem lcL_map {α : Type} {vt : VTM} {pt : VE Bool} {pe : VE U} {Γ : UEnv} (g : α → U) (p : α → Bool) (f : α → U) (xs : List α) (k : List U → Prop) (d : Dm (pt, pe, k)) (h : ∀ x, x ∈ xs → ∃ bs, vt (g x) = some bs ∧ (∀ k, pt (setU Γ bs) XF k = k (p x)) ∧ (p x = true → ∀ k, pe (setU Γ bs) XF k = k (f x))) : lcL vt pt pe Γ (xs.map g) k d = k ((xs.filter p).map f) := vLcL_map g p f xs k h
theorem lcL_map1 {α : Type} {vt : VTM} {pe : VE U} {Γ : UEnv} (g : α → U) (f : α → U) (xs : List α) (k : List U → Prop) (d : Dm (vYes, pe, k)) (h : ∀ x, x ∈ xs → ∃ bs, vt (g x) = some bs ∧ (∀ k, pe (setU Γ bs) XF k = k (f x))) : lcL vt vYes pe Γ (xs.map g) k d = k (xs.map f) := vLcL_map1 g f xs k h
theorem lcL_all {vt : VTM} {pe : VE U} {Γ : UEnv} {us : List U} {k : List U → Prop} {d : Dm (vYes, pe, k)} (Q : U → U → Prop) (h : ∀ u, u ∈ us → ∃ bs, vt u = some bs ∧ ∀ k : U → Prop, (∀ y, Q u y → k y) → pe (setU Γ bs) XF k) (hk : ∀ ys, All2 Q us ys → k ys) : lcL vt vYes pe Γ us k d := vLcL_all Q us k h hk
theorem forL_go {vt : VTM} {body : VS} {nx0 : UEnv → Prop} {rt : U → Prop} {bk0 ct0 : UEnv → Prop} {ex : Addr → EF → UEnv → Prop} {Γ : UEnv} {us : List U} {d : Dm (body, (⟨nx0, rt, bk0, ct0, ex⟩ : SK))} (I : Nat → UEnv → Prop) (h0 : I 0 Γ) (hs : ∀ (i : Nat) (u : U) (Γ : UEnv) (nx bk : UEnv → Prop), us[i]? = some u → I i Γ → (∀ Γ', I (i + 1) Γ' → nx Γ') → ∃ bs, vt u = some bs ∧ body (setU Γ bs) ⟨nx, rt, bk, nx, ex⟩)
    (hn : ∀ Γ', I us.length Γ' → nx0 Γ') : forL vt body us Γ ⟨nx0, rt, bk0, ct0, ex⟩ d := vForL_go I h0 hs hn
theorem forL_goM {α : Type} {vt : VTM} {body : VS} {nx0 : UEnv → Prop} {rt : U → Prop} {bk0 ct0 : UEnv → Prop} {ex : Addr → EF → UEnv → Prop} {Γ : UEnv} (g : α → U) {xs : List α} {d : Dm (body, (⟨nx0, rt, bk0, ct0, ex⟩ : SK))} (I : Nat → UEnv → Prop) (h0 : I 0 Γ) (hs : ∀ (i : Nat) (x : α) (Γ : UEnv) (nx bk : UEnv → Prop), xs[i]? = some x → I i Γ → (∀ Γ', I (i + 1) Γ' → nx Γ') → ∃ bs, vt (g x) = some bs ∧ body (setU Γ bs) ⟨nx, rt, bk, nx, ex⟩)
    (hn : ∀ Γ', I xs.length Γ' → nx0 Γ') : forL vt body (xs.map g) Γ ⟨nx0, rt, bk0, ct0, ex⟩ d := vForL_goM g I h0 hs hn
theorem take_snoc {α : Type} {l : List α} {i : Nat} {x : α} (h : l[i]? = some x) : l.take (i + 1) = l.take i ++ [x] := by
  rw [List.take_succ, h]; rfl
end HV

/-! W2: how large shown data are; dicts; more words. -/
namespace HV
open PySem PySem.Spec PyProof.Rows L2 HA
set_option exponentiation.threshold 300
def BIG : Nat := 2 ^ 280
/-- data that can be shown: depth, weight -/
def Sz (n w : Nat) (u : U) : Prop := ∃ p, uP n u = some p ∧ tame BIG p = true ∧ p.weight ≤ w
def Szs (n w : Nat) (us : List U) : Prop := ∃ ps, optAll (uP n) us = some ps ∧ tames BIG ps = true ∧ PyData.weightAll ps ≤ w
theorem optAll_uMono {f g : Nat} (h : ∀ u p, uP f u = some p → uP g u = some p) : ∀ (us : List U) (ps : List PyData), optAll (uP f) us = some ps → optAll (uP g) us = some ps :=
  fun us ps e => optAll_mono h e
theorem uP_succ : ∀ (f : Nat) (u : U) (p : PyData), uP f u = some p → uP (f + 1) u = some p
  | 0, _, _, h => by simp [uP] at h
  | f + 1, u, p, h => by
    have ih := uP_succ f
    unfold uP at h ⊢
    split at h
    · exact h
    · exact h
    · exact h
    · exact h
    · rw [Option.map_eq_some_iff] at h ⊢
      obtain ⟨ps, h1, h2⟩ := h
      exact ⟨ps, optAll_mono ih h1, h2⟩
    · rw [Option.map_eq_some_iff] at h ⊢
      obtain ⟨ps, h1, h2⟩ := h
      exact ⟨ps, optAll_mono ih h1, h2⟩
    · rw [Option.map_eq_some_iff] at h ⊢
      obtain ⟨ps, h1, h2⟩ := h
      exact ⟨ps, optAll_mono ih h1, h2⟩
    · cases h
theorem uP_le {f g : Nat} (hl : f ≤ g) (u : U) (p : PyData) (h : uP f u = some p) : uP g u = some p := by
  induction hl with
  | refl => exact h
  | step _ ih => exact uP_succ _ u p ih
theorem Sz.mono {n n' w w' : Nat} {u : U} (h : Sz n w u) (hn : n ≤ n') (hw : w ≤ w') : Sz n' w' u := let ⟨p, h1, h2, h3⟩ := h; ⟨p, uP_le hn u p h1, h2, Nat.le_trans h3 hw⟩
theorem Szs.mono {n n' w w' : Nat} {us : List U} (h : Szs n w us) (hn : n ≤ n') (hw : w ≤ w') : Szs n' w' us := let ⟨p, h1, h2, h3⟩ := h; ⟨p, optAll_mono (uP_le hn) h1, h2, Nat.le_trans h3 hw⟩
theorem Sz.non {n : Nat} : Sz (n + 1) 0 .non := ⟨.none, rfl, rfl, Nat.le_refl _⟩
theorem Sz.bl {n : Nat} {b : Bool} : Sz (n + 1) 0 (.bl b) := ⟨.bool b, rfl, rfl, Nat.le_refl _⟩
theorem Sz.int {n : Nat} {i : Int} (h : i.natAbs ≤ BIG) : Sz (n + 1) 281 (.int i) := ⟨.int i, rfl, by simp [tame, h], by
  simp only [PyData.weight]
  split
  · exact Nat.zero_le _
  · rename_i h0
    have : i.natAbs ≠ 0 := fun z => h0 (by simp; omega)
    have := (Nat.log2_lt this).mpr (show i.natAbs < 2 ^ 281 from Nat.lt_of_le_of_lt h (by decide))
    omega⟩
/-- a number of at most twenty binary digits -/
theorem Sz.num {n : Nat} {i : Int} (h : i.natAbs < 1048576) : Sz (n + 1) 20 (.int i) := ⟨.int i, rfl, by simp [tame]; exact Nat.le_trans (Nat.le_of_lt h) (by decide), by
  simp only [PyData.weight]
  split
  · exact Nat.zero_le _
  · rename_i h0
    have : i.natAbs ≠ 0 := fun z => h0 (by simp; omega)
    have := (Nat.log2_lt this).mpr (show i.natAbs < 2 ^ 20 from h)
    omega⟩
theorem Sz.str {n : Nat} {x : Str} (h : (x.cps.toList.all fun c => decide (c < 16 ^ 8)) = true) : Sz (n + 1) x.cps.size (.str x) := ⟨.str x, rfl, h, Nat.le_refl _⟩
theorem Sz.lit {n w : Nat} (s : String) (h : (Str.ofString s).cps.size ≤ w) : Sz (n + 1) w (.str (Str.ofString s)) := (Sz.str (ofString_signs s)).mono (Nat.le_refl _) h
theorem Szs.nil {n : Nat} : Szs n 0 [] := ⟨[], rfl, rfl, Nat.le_refl _⟩
theorem Szs.cons {n a b : Nat} {u : U} {us : List U} (h : Sz n a u) (t : Szs n b us) : Szs n (a + 1 + b) (u :: us) := by
  obtain ⟨p, h1, h2, h3⟩ := h
  obtain ⟨ps, t1, t2, t3⟩ := t
  refine ⟨p :: ps, by simp [optAll, h1, t1], by simp [tames, h2, t2], ?_⟩
  simp only [PyData.weightAll]
  omega
theorem Szs.app {n a b : Nat} {us vs : List U} (h : Szs n a us) (t : Szs n b vs) : Szs n (a + b) (us ++ vs) := by
  obtain ⟨p, h1, h2, h3⟩ := h
  obtain ⟨ps, t1, t2, t3⟩ := t
  exact ⟨p ++ ps, optAll_app h1 t1, by simp [tames_app, h2, t2], by rw [weightAll_app]; omega⟩
theorem Szs.all {n w m : Nat} : ∀ {us : List U}, (∀ u ∈ us, Sz n w u) → us.length ≤ m → Szs n (m * (w + 1)) us
  | [], _, _ => Szs.nil.mono (Nat.le_refl _) (Nat.zero_le _)
  | u :: us, h, hl => by
    rw [List.length_cons] at hl
    obtain ⟨m', rfl⟩ : ∃ m', m = m' + 1 := ⟨m - 1, by omega⟩
    exact (Szs.cons (h u List.mem_cons_self) (Szs.all (m := m') (fun v hv => h v (List.mem_cons_of_mem _ hv)) (by omega))).mono (Nat.le_refl _) (by rw [Nat.add_mul, Nat.one_mul]; omega)
theorem Sz.tup {n w : Nat} {us : List U} (h : Szs n w us) : Sz (n + 1) w (.tup us) := by
  obtain ⟨ps, h1, h2, h3⟩ := h
  exact ⟨.tuple ps, by simp [uP, h1], by simpa [tame] using h2, by simpa [PyData.weight] using h3⟩
theorem Sz.lst {n w : Nat} {us : List U} (h : Szs n w us) : Sz (n + 1) w (.lst us) := by
  obtain ⟨ps, h1, h2, h3⟩ := h
  exact ⟨.list ps, by simp [uP, h1], by simpa [tame] using h2, by simpa [PyData.weight] using h3⟩
theorem uP_depth : ∀ (f : Nat) (u : U) (p : PyData), uP f u = some p → p.depth ≤ f
  | 0, _, _, h => by simp [uP] at h
  | f + 1, u, p, h => by
    have ih := uP_depth f
    have key : ∀ (us : List U) (ps : List PyData), optAll (uP f) us = some ps → PyData.depthAll ps ≤ f := fun us ps e => depthAll_le fun p hp => let ⟨u, _, hu⟩ := optAll_mem e p hp; ih u p hu
    unfold uP at h
    split at h
    · cases h; simp [PyData.depth]
    · cases h; simp [PyData.depth]
    · cases h; simp [PyData.depth]
    · cases h; simp [PyData.depth]
    · rw [Option.map_eq_some_iff] at h
      obtain ⟨ps, h1, rfl⟩ := h
      have := key _ _ h1
      simp only [PyData.depth]; omega
    · rw [Option.map_eq_some_iff] at h
      obtain ⟨ps, h1, rfl⟩ := h
      have := key _ _ h1
      simp only [PyData.depth]; omega
    · rw [Option.map_eq_some_iff] at h
      obtain ⟨ps, h1, rfl⟩ := h
      rename_i ks us
      have : PyData.depthKv ((List.map keyP ks).zip ps) ≤ f := depthKv_le (n := f) fun q hq => by
        obtain ⟨a, b⟩ := q
        have hm := List.of_mem_zip hq
        obtain ⟨k, _, rfl⟩ := List.mem_map.mp hm.1
        obtain ⟨u, _, hu⟩ := optAll_mem h1 b hm.2
        exact ⟨by cases k <;> simp [keyP, PyData.depth], ih u b hu⟩
      simp only [PyData.depth]; omega
    · cases h
theorem Sz.ok {n w : Nat} {u : U} (h : Sz n w u) (hn : n ≤ 63 := by decide) (hw : w ≤ 50000 := by decide) : ∃ p, uP 63 u = some p ∧ ShowOk p := by
  obtain ⟨p, h1, h2, h3⟩ := h.mono hn hw
  have hB : BIG < 2 ^ 290 := by decide
  exact ⟨p, h1, (tame_leaf hB p h2).2, tame_len hB h2 h3, uP_depth 63 u p h1⟩
def shw (u : U) : Str := match uP 63 u with
  | some p => p.shown
  | none => ""
theorem Sz.repr {n w : Nat} {u : U} {X : ExK} {k : U → Prop} (h : Sz n w u) (hn : n ≤ 63 := by decide) (hw : w ≤ 50000 := by decide) : vRepr [u] X k = k (.str (shw u)) := by
  obtain ⟨p, h1, h2⟩ := h.ok hn hw
  rw [vRepr_def]
  simp only [shw, h1, h2, oK_some, true_and]
theorem Szs.lrepr {n w : Nat} {us : List U} {X : ExK} {k : U → Prop} (h : Szs n w us) (hn : n ≤ 62 := by decide) (hw : w ≤ 50000 := by decide) : vLRepr us X k = k (.str (shw (.lst us))) := by
  obtain ⟨ps, h1, h2, h3⟩ := h.mono hn hw
  obtain ⟨p, e1, e2⟩ := (Sz.lst (n := 62) ⟨ps, h1, h2, h3⟩).ok (by decide) (Nat.le_refl _)
  have e0 : uP 63 (.lst us) = (optAll (uP 62) us).map .list := rfl
  have e : p = .list ps := by rw [e0, h1] at e1; exact (Option.some.inj e1).symm
  subst e
  unfold vLRepr shw
  rw [h1, e1]
  simp only [e2, true_and]
/-! dicts by numbers -/
theorem uPut_any {ks : List Key} {us : List U} {kk : Key} {v : U} : ∃ ks' us', uPut ks us kk v = .dK ks' us' ∧ (∀ q, (ks'.any fun z => decide (z = q)) = ((ks.any fun z => decide (z = q)) || decide (kk = q))) ∧ ks'.length ≤ ks.length + 1 := by
  unfold uPut
  split
  · rename_i h
    refine ⟨_, _, rfl, fun q => ?_, Nat.le_succ _⟩
    by_cases hq : kk = q
    · subst hq; simp [h]
    · simp [hq]
  · exact ⟨_, _, rfl, fun q => by simp, by simp⟩
end HV
namespace HV
open PySem PySem.Spec PyProof.Rows L2 HA
theorem ints_uP (n : Nat) (ns : List Int) : optAll (uP (n + 1)) (ns.map U.int) = some (ns.map PyData.int) := by
  induction ns with
  | nil => rfl
  | cons x ns ih =>
    have e : uP (n + 1) (.int x) = some (.int x) := rfl
    simp only [List.map_cons, optAll, e, ih]
@[simp] theorem vNil_ints (neg : Bool) (ns : List Int) (X : ExK) (kb : Bool → Prop) : vNil neg (ns.map U.int) X kb = kb (if ns = [] then !neg else neg) := by
  cases ns with
  | nil => rfl
  | cons x ns =>
    rw [List.map_cons, vNil_cons, ← List.map_cons (f := U.int), ints_uP 61]
    have h := shaped_ints (x :: ns)
    simp only [h, true_and]
    simp
end HV
namespace HV
open PySem PySem.Spec PyProof.Rows L2 HA
/-- one of them -/
def Of {α : Type} (ys : List α) (y : α) : Prop := y ∈ ys
@[simp high] theorem pick2int (a b : Int) (X : ExK) (k' : U → Prop) (dd : Dm fun u => vLIx [.int a, .int b] u X k') : aD 2 (fun u => vLIx [.int a, .int b] u X k') dd = ∀ y : Int, Of [a, b] y → k' (.int y) := by
  refine propext ⟨fun h y hy => ?_, fun h v hv => ?_⟩
  · simp only [Of, List.mem_cons, List.not_mem_nil, or_false] at hy
    rcases hy with rfl | rfl
    · exact h 0 (by omega)
    · exact h 1 (by omega)
  · match v, hv with
    | 0, _ => exact h _ (by simp [Of])
    | 1, _ => exact h _ (by simp [Of])
    | v + 2, hv => exact absurd hv (by omega)

@[simp high] theorem pick2str (a b : Str) (X : ExK) (k' : U → Prop) (dd : Dm fun u => vLIx [.str a, .str b] u X k') : aD 2 (fun u => vLIx [.str a, .str b] u X k') dd = ∀ y : Str, Of [a, b] y → k' (.str y) := by
  refine propext ⟨fun h y hy => ?_, fun h v hv => ?_⟩
  · simp only [Of, List.mem_cons, List.not_mem_nil, or_false] at hy
    rcases hy with rfl | rfl
    · exact h 0 (by omega)
    · exact h 1 (by omega)
  · match v, hv with
    | 0, _ => exact h _ (by simp [Of])
    | 1, _ => exact h _ (by simp [Of])
    | v + 2, hv => exact absurd hv (by omega)

@[simp high] theorem pick3int (a b c : Int) (X : ExK) (k' : U → Prop) (dd : Dm fun u => vLIx [.int a, .int b, .int c] u X k') : aD 3 (fun u => vLIx [.int a, .int b, .int c] u X k') dd = ∀ y : Int, Of [a, b, c] y → k' (.int y) := by
  refine propext ⟨fun h y hy => ?_, fun h v hv => ?_⟩
  · simp only [Of, List.mem_cons, List.not_mem_nil, or_false] at hy
    rcases hy with rfl | rfl | rfl
    · exact h 0 (by omega)
    · exact h 1 (by omega)
    · exact h 2 (by omega)
  · match v, hv with
    | 0, _ => exact h _ (by simp [Of])
    | 1, _ => exact h _ (by simp [Of])
    | 2, _ => exact h _ (by simp [Of])
    | v + 3, hv => exact absurd hv (by omega)

@[simp high] theorem pick3str (a b c : Str) (X : ExK) (k' : U → Prop) (dd : Dm fun u => vLIx [.str a, .str b, .str c] u X k') : aD 3 (fun u => vLIx [.str a, .str b, .str c] u X k') dd = ∀ y : Str, Of [a, b, c] y → k' (.str y) := by
  refine propext ⟨fun h y hy => ?_, fun h v hv => ?_⟩
  · simp only [Of, List.mem_cons, List.not_mem_nil, or_false] at hy
    rcases hy with rfl | rfl | rfl
    · exact h 0 (by omega)
    · exact h 1 (by omega)
    · exact h 2 (by omega)
  · match v, hv with
    | 0, _ => exact h _ (by simp [Of])
    | 1, _ => exact h _ (by simp [Of])
    | 2, _ => exact h _ (by simp [Of])
    | v + 3, hv => exact absurd hv (by omega)

@[simp high] theorem pick4int (a b c d : Int) (X : ExK) (k' : U → Prop) (dd : Dm fun u => vLIx [.int a, .int b, .int c, .int d] u X k') : aD 4 (fun u => vLIx [.int a, .int b, .int c, .int d] u X k') dd = ∀ y : Int, Of [a, b, c, d] y → k' (.int y) := by
  refine propext ⟨fun h y hy => ?_, fun h v hv => ?_⟩
  · simp only [Of, List.mem_cons, List.not_mem_nil, or_false] at hy
    rcases hy with rfl | rfl | rfl | rfl
    · exact h 0 (by omega)
    · exact h 1 (by omega)
    · exact h 2 (by omega)
    · exact h 3 (by omega)
  · match v, hv with
    | 0, _ => exact h _ (by simp [Of])
    | 1, _ => exact h _ (by simp [Of])
    | 2, _ => exact h _ (by simp [Of])
    | 3, _ => exact h _ (by simp [Of])
    | v + 4, hv => exact absurd hv (by omega)

@[simp high] theorem pick4str (a b c d : Str) (X : ExK) (k' : U → Prop) (dd : Dm fun u => vLIx [.str a, .str b, .str c, .str d] u X k') : aD 4 (fun u => vLIx [.str a, .str b, .str c, .str d] u X k') dd = ∀ y : Str, Of [a, b, c, d] y → k' (.str y) := by
  refine propext ⟨fun h y hy => ?_, fun h v hv => ?_⟩
  · simp only [Of, List.mem_cons, List.not_mem_nil, or_false] at hy
    rcases hy with rfl | rfl | rfl | rfl
    · exact h 0 (by omega)
    · exact h 1 (by omega)
    · exact h 2 (by omega)
    · exact h 3 (by omega)
  · match v, hv with
    | 0, _ => exact h _ (by simp [Of])
    | 1, _ => exact h _ (by simp [Of])
    | 2, _ => exact h _ (by simp [Of])
    | 3, _ => exact h _ (by simp [Of])
    | v + 4, hv => exact absurd hv (by omega)

@[simp high] theorem pick5int (a b c d e : Int) (X : ExK) (k' : U → Prop) (dd : Dm fun u => vLIx [.int a, .int b, .int c, .int d, .int e] u X k') : aD 5 (fun u => vLIx [.int a, .int b, .int c, .int d, .int e] u X k') dd = ∀ y : Int, Of [a, b, c, d, e] y → k' (.int y) := by
  refine propext ⟨fun h y hy => ?_, fun h v hv => ?_⟩
  · simp only [Of, List.mem_cons, List.not_mem_nil, or_false] at hy
    rcases hy with rfl | rfl | rfl | rfl | rfl
    · exact h 0 (by omega)
    · exact h 1 (by omega)
    · exact h 2 (by omega)
    · exact h 3 (by omega)
    · exact h 4 (by omega)
  · match v, hv with
    | 0, _ => exact h _ (by simp [Of])
    | 1, _ => exact h _ (by simp [Of])
    | 2, _ => exact h _ (by simp [Of])
    | 3, _ => exact h _ (by simp [Of])
    | 4, _ => exact h _ (by simp [Of])
    | v + 5, hv => exact absurd hv (by omega)

@[simp high] theorem pick5str (a b c d e : Str) (X : ExK) (k' : U → Prop) (dd : Dm fun u => vLIx [.str a, .str b, .str c, .str d, .str e] u X k') : aD 5 (fun u => vLIx [.str a, .str b, .str c, .str d, .str e] u X k') dd = ∀ y : Str, Of [a, b, c, d, e] y → k' (.str y) := by
  refine propext ⟨fun h y hy => ?_, fun h v hv => ?_⟩
  · simp only [Of, List.mem_cons, List.not_mem_nil, or_false] at hy
    rcases hy with rfl | rfl | rfl | rfl | rfl
    · exact h 0 (by omega)
    · exact h 1 (by omega)
    · exact h 2 (by omega)
    · exact h 3 (by omega)
    · exact h 4 (by omega)
  · match v, hv with
    | 0, _ => exact h _ (by simp [Of])
    | 1, _ => exact h _ (by simp [Of])
    | 2, _ => exact h _ (by simp [Of])
    | 3, _ => exact h _ (by simp [Of])
    | 4, _ => exact h _ (by simp [Of])
    | v + 5, hv => exact absurd hv (by omega)

@[simp high] theorem pick6int (a b c d e f : Int) (X : ExK) (k' : U → Prop) (dd : Dm fun u => vLIx [.int a, .int b, .int c, .int d, .int e, .int f] u X k') : aD 6 (fun u => vLIx [.int a, .int b, .int c, .int d, .int e, .int f] u X k') dd = ∀ y : Int, Of [a, b, c, d, e, f] y → k' (.int y) := by
  refine propext ⟨fun h y hy => ?_, fun h v hv => ?_⟩
  · simp only [Of, List.mem_cons, List.not_mem_nil, or_false] at hy
    rcases hy with rfl | rfl | rfl | rfl | rfl | rfl
    · exact h 0 (by omega)
    · exact h 1 (by omega)
    · exact h 2 (by omega)
    · exact h 3 (by omega)
    · exact h 4 (by omega)
    · exact h 5 (by omega)
  · match v, hv with
    | 0, _ => exact h _ (by simp [Of])
    | 1, _ => exact h _ (by simp [Of])
    | 2, _ => exact h _ (by simp [Of])
    | 3, _ => exact h _ (by simp [Of])
    | 4, _ => exact h _ (by simp [Of])
    | 5, _ => exact h _ (by simp [Of])
    | v + 6, hv => exact absurd hv (by omega)

@[simp high] theorem pick6str (a b c d e f : Str) (X : ExK) (k' : U → Prop) (dd : Dm fun u => vLIx [.str a, .str b, .str c, .str d, .str e, .str f] u X k') : aD 6 (fun u => vLIx [.str a, .str b, .str c, .str d, .str e, .str f] u X k') dd = ∀ y : Str, Of [a, b, c, d, e, f] y → k' (.str y) := by
  refine propext ⟨fun h y hy => ?_, fun h v hv => ?_⟩
  · simp only [Of, List.mem_cons, List.not_mem_nil, or_false] at hy
    rcases hy with rfl | rfl | rfl | rfl | rfl | rfl
    · exact h 0 (by omega)
    · exact h 1 (by omega)
    · exact h 2 (by omega)
    · exact h 3 (by omega)
    · exact h 4 (by omega)
    · exact h 5 (by omega)
  · match v, hv with
    | 0, _ => exact h _ (by simp [Of])
    | 1, _ => exact h _ (by simp [Of])
    | 2, _ => exact h _ (by simp [Of])
    | 3, _ => exact h _ (by simp [Of])
    | 4, _ => exact h _ (by simp [Of])
    | 5, _ => exact h _ (by simp [Of])
    | v + 6, hv => exact absurd hv (by omega)

@[simp high] theorem pick7int (a b c d e f g : Int) (X : ExK) (k' : U → Prop) (dd : Dm fun u => vLIx [.int a, .int b, .int c, .int d, .int e, .int f, .int g] u X k') : aD 7 (fun u => vLIx [.int a, .int b, .int c, .int d, .int e, .int f, .int g] u X k') dd = ∀ y : Int, Of [a, b, c, d, e, f, g] y → k' (.int y) := by
  refine propext ⟨fun h y hy => ?_, fun h v hv => ?_⟩
  · simp only [Of, List.mem_cons, List.not_mem_nil, or_false] at hy
    rcases hy with rfl | rfl | rfl | rfl | rfl | rfl | rfl
    · exact h 0 (by omega)
    · exact h 1 (by omega)
    · exact h 2 (by omega)
    · exact h 3 (by omega)
    · exact h 4 (by omega)
    · exact h 5 (by omega)
    · exact h 6 (by omega)
  · match v, hv with
    | 0, _ => exact h _ (by simp [Of])
    | 1, _ => exact h _ (by simp [Of])
    | 2, _ => exact h _ (by simp [Of])
    | 3, _ => exact h _ (by simp [Of])
    | 4, _ => exact h _ (by simp [Of])
    | 5, _ => exact h _ (by simp [Of])
    | 6, _ => exact h _ (by simp [Of])
    | v + 7, hv => exact absurd hv (by omega)

@[simp high] theorem pick7str (a b c d e f g : Str) (X : ExK) (k' : U → Prop) (dd : Dm fun u => vLIx [.str a, .str b, .str c, .str d, .str e, .str f, .str g] u X k') : aD 7 (fun u => vLIx [.str a, .str b, .str c, .str d, .str e, .str f, .str g] u X k') dd = ∀ y : Str, Of [a, b, c, d, e, f, g] y → k' (.str y) := by
  refine propext ⟨fun h y hy => ?_, fun h v hv => ?_⟩
  · simp only [Of, List.mem_cons, List.not_mem_nil, or_false] at hy
    rcases hy with rfl | rfl | rfl | rfl | rfl | rfl | rfl
    · exact h 0 (by omega)
    · exact h 1 (by omega)
    · exact h 2 (by omega)
    · exact h 3 (by omega)
    · exact h 4 (by omega)
    · exact h 5 (by omega)
    · exact h 6 (by omega)
  · match v, hv with
    | 0, _ => exact h _ (by simp [Of])
    | 1, _ => exact h _ (by simp [Of])
    | 2, _ => exact h _ (by simp [Of])
    | 3, _ => exact h _ (by simp [Of])
    | 4, _ => exact h _ (by simp [Of])
    | 5, _ => exact h _ (by simp [Of])
    | 6, _ => exact h _ (by simp [Of])
    | v + 7, hv => exact absurd hv (by omega)

@[simp high] theorem pick8int (a b c d e f g h : Int) (X : ExK) (k' : U → Prop) (dd : Dm fun u => vLIx [.int a, .int b, .int c, .int d, .int e, .int f, .int g, .int h] u X k') : aD 8 (fun u => vLIx [.int a, .int b, .int c, .int d, .int e, .int f, .int g, .int h] u X k') dd = ∀ y : Int, Of [a, b, c, d, e, f, g, h] y → k' (.int y) := by
  refine propext ⟨fun h y hy => ?_, fun h v hv => ?_⟩
  · simp only [Of, List.mem_cons, List.not_mem_nil, or_false] at hy
    rcases hy with rfl | rfl | rfl | rfl | rfl | rfl | rfl | rfl
    · exact h 0 (by omega)
    · exact h 1 (by omega)
    · exact h 2 (by omega)
    · exact h 3 (by omega)
    · exact h 4 (by omega)
    · exact h 5 (by omega)
    · exact h 6 (by omega)
    · exact h 7 (by omega)
  · match v, hv with
    | 0, _ => exact h _ (by simp [Of])
    | 1, _ => exact h _ (by simp [Of])
    | 2, _ => exact h _ (by simp [Of])
    | 3, _ => exact h _ (by simp [Of])
    | 4, _ => exact h _ (by simp [Of])
    | 5, _ => exact h _ (by simp [Of])
    | 6, _ => exact h _ (by simp [Of])
    | 7, _ => exact h _ (by simp [Of])
    | v + 8, hv => exact absurd hv (by omega)

@[simp high] theorem pick8str (a b c d e f g h : Str) (X : ExK) (k' : U → Prop) (dd : Dm fun u => vLIx [.str a, .str b, .str c, .str d, .str e, .str f, .str g, .str h] u X k') : aD 8 (fun u => vLIx [.str a, .str b, .str c, .str d, .str e, .str f, .str g, .str h] u X k') dd = ∀ y : Str, Of [a, b, c, d, e, f, g, h] y → k' (.str y) := by
  refine propext ⟨fun h y hy => ?_, fun h v hv => ?_⟩
  · simp only [Of, List.mem_cons, List.not_mem_nil, or_false] at hy
    rcases hy with rfl | rfl | rfl | rfl | rfl | rfl | rfl | rfl
    · exact h 0 (by omega)
    · exact h 1 (by omega)
    · exact h 2 (by omega)
    · exact h 3 (by omega)
    · exact h 4 (by omega)
    · exact h 5 (by omega)
    · exact h 6 (by omega)
    · exact h 7 (by omega)
  · match v, hv with
    | 0, _ => exact h _ (by simp [Of])
    | 1, _ => exact h _ (by simp [Of])
    | 2, _ => exact h _ (by simp [Of])
    | 3, _ => exact h _ (by simp [Of])
    | 4, _ => exact h _ (by simp [Of])
    | 5, _ => exact h _ (by simp [Of])
    | 6, _ => exact h _ (by simp [Of])
    | 7, _ => exact h _ (by simp [Of])
    | v + 8, hv => exact absurd hv (by omega)
/-- a draw and what it picks -/
theorem aD_pick {α : Type} {g : α → U} {ys : List α} {us : List U} {b : Int} {X : ExK} {k : U → Prop} {d : Dm fun u => vLIx us u X k} (hu : us = ys.map g) (hb : b = ys.length) (h : ∀ y, y ∈ ys → k (g y)) : aD b (fun u => vLIx us u X k) d := fun v hv => by
  subst hu; subst hb
  have hv' : v < ys.length := by omega
  simp [hv']
  exact h _ (List.getElem_mem _)
@[simp low] theorem aD_def (b : Int) (k : U → Prop) (d : Dm k) : aD b k d = ∀ v : Nat, (v : Int) < b → k (.int v) := rfl
end HV
namespace HV
open PySem PySem.Spec PyProof.Rows L2 HA
/-- data that can be compared -/
def Lay (n : Nat) (u : U) : Prop := ∃ p, uP n u = some p ∧ p.canLay0 = true
def Lays (n : Nat) (us : List U) : Prop := ∃ ps, optAll (uP n) us = some ps ∧ PyData.canLayAll0 ps = true
theorem Lay.mono {n n' : Nat} {u : U} (h : Lay n u) (hn : n ≤ n') : Lay n' u := let ⟨p, h1, h2⟩ := h; ⟨p, uP_le hn u p h1, h2⟩
theorem Lay.non {n : Nat} : Lay (n + 1) .non := ⟨.none, rfl, rfl⟩
theorem Lay.bl {n : Nat} {b : Bool} : Lay (n + 1) (.bl b) := ⟨.bool b, rfl, rfl⟩
theorem Lay.int {n : Nat} {i : Int} : Lay (n + 1) (.int i) := ⟨.int i, rfl, rfl⟩
theorem Lay.str {n : Nat} {x : Str} (h : PyData.strOk x = true) : Lay (n + 1) (.str x) := ⟨.str x, rfl, h⟩
theorem Lays.nil {n : Nat} : Lays n [] := ⟨[], rfl, rfl⟩
theorem Lays.cons {n : Nat} {u : U} {us : List U} (h : Lay n u) (t : Lays n us) : Lays n (u :: us) := by
  obtain ⟨p, h1, h2⟩ := h
  obtain ⟨ps, t1, t2⟩ := t
  exact ⟨p :: ps, by simp [optAll, h1, t1], by simp [PyData.canLayAll0, h2, t2]⟩
theorem Lays.all {n : Nat} : ∀ {us : List U}, (∀ u ∈ us, Lay n u) → Lays n us
  | [], _ => Lays.nil
  | u :: us, h => Lays.cons (h u List.mem_cons_self) (Lays.all fun v hv => h v (List.mem_cons_of_mem _ hv))
theorem Lay.tup {n : Nat} {us : List U} (h : Lays n us) : Lay (n + 1) (.tup us) := by
  obtain ⟨ps, h1, h2⟩ := h
  exact ⟨.tuple ps, by simp [uP, h1], h2⟩
theorem Lay.lst {n : Nat} {us : List U} (h : Lays n us) : Lay (n + 1) (.lst us) := by
  obtain ⟨ps, h1, h2⟩ := h
  exact ⟨.list ps, by simp [uP, h1], h2⟩
theorem Lays.shaped {n : Nat} {us : List U} (h : Lays n us) (hn : n ≤ 62) : ∃ ps, optAll (uP 62) us = some ps ∧ SeqAt.shaped (.list ps) = true := by
  obtain ⟨ps, h1, h2⟩ := h
  have h1' := optAll_mono (uP_le hn) h1
  refine ⟨ps, h1', ?_⟩
  have hd : PyData.depthAll ps ≤ 62 := depthAll_le fun p hp => let ⟨u, _, hu⟩ := optAll_mem h1' p hp; uP_depth 62 u p hu
  unfold SeqAt.shaped
  simp [PyData.canLay0, h2, PyData.depth]
  omega
theorem Lays.vnil {n : Nat} {neg : Bool} {us : List U} {X : ExK} {kb : Bool → Prop} (h : Lays n us) (hn : n ≤ 62 := by decide) : vNil neg us X kb = kb (if us = [] then !neg else neg) := by
  cases us with
  | nil => rfl
  | cons u us =>
    obtain ⟨ps, h1, h2⟩ := h.shaped hn
    rw [vNil_cons, h1]
    simp only [h2, true_and]
    simp
end HV
namespace HV
open PySem PySem.Spec PyProof.Rows L2 HA
theorem All2.each {α β : Type} {P : β → Prop} {as : List α} {bs : List β} (h : All2 (fun _ b => P b) as bs) : ∀ b ∈ bs, P b := by
  induction h with
  | nil => intro b hb; cases hb
  | cons h1 _ ih =>
    intro b hb
    rcases List.mem_cons.mp hb with rfl | hb
    · exact h1
    · exact ih b hb
theorem lcL_each {vt : VTM} {pe : VE U} {Γ : UEnv} {us : List U} {k : List U → Prop} (P : U → Prop) (h : ∀ u, u ∈ us → ∃ bs, vt u = some bs ∧ ∀ k : U → Prop, (∀ y, P y → k y) → pe (setU Γ bs) XF k) (hk : ∀ ys, ys.length = us.length → (∀ y ∈ ys, P y) → k ys) : lcL vt vYes pe Γ us k () :=
  lcL_all (fun _ y => P y) h fun ys hy => hk ys hy.len.symm hy.each
end HV
namespace HV
open PySem PySem.Spec PyProof.Rows L2 HA
@[simp] theorem cut_from {α : Type} (xs : List α) (i : Int) (h : 0 ≤ i) : HA.cut xs (some i) none = xs.drop i.toNat := by
  have := cut_tail xs i.toNat
  rwa [Int.toNat_of_nonneg h] at this
@[simp] theorem cut_to {α : Type} (xs : List α) (i : Int) (h : 0 ≤ i) : HA.cut xs none (some i) = xs.take i.toNat := by
  have := cut_head xs i.toNat
  rwa [Int.toNat_of_nonneg h] at this
end HV
namespace HV
open PySem PySem.Spec PyProof.Rows L2 HA
@[simp] theorem optAll_uInt_map {α : Type} (f : α → Int) (xs : List α) : optAll uInt (xs.map fun x => U.int (f x)) = some (xs.map f) := by
  have := ints_optAll (xs.map f)
  simpa [Function.comp_def] using this
@[simp] theorem optAll_uInt_comp {α : Type} (f : α → Int) (xs : List α) : optAll uInt (xs.map (U.int ∘ f)) = some (xs.map f) := optAll_uInt_map f xs
theorem foldl_max {a b : Int} : ∀ (ns : List Int) (n : Int), a ≤ n ∧ n ≤ b → (∀ x ∈ ns, x ≤ b) → a ≤ ns.foldl max n ∧ ns.foldl max n ≤ b
  | [], n, h, _ => h
  | x :: ns, n, h, hx => by
    rw [List.foldl_cons]
    have := hx x List.mem_cons_self
    exact foldl_max ns (max n x) (by omega) fun y hy => hx y (List.mem_cons_of_mem _ hy)
theorem maxOf_in {a b d : Int} {ns : List Int} (hd : a ≤ d ∧ d ≤ b) (h : ∀ x ∈ ns, a ≤ x ∧ x ≤ b) : a ≤ maxOf ns d ∧ maxOf ns d ≤ b := by
  cases ns with
  | nil => exact hd
  | cons n ns => exact foldl_max ns n (h n List.mem_cons_self) fun x hx => (h x (List.mem_cons_of_mem _ hx)).2
end HV
namespace HV
open PySem PySem.Spec PyProof.Rows L2 HA
@[simp ↓] theorem cal_pick (p : List U → ExK → (U → Prop) → Prop) (π : List Nat) (us : List U) (X : ExK) (k : U → Prop) (d : Dm (X, k)) : cal (fun us => p (pick π [] us)) us X k d = cal p (pick π [] us) X k () := nrfl rfl
@[simp] theorem pick_nil (us : List U) : pick [] [] us = [] := nrfl rfl
@[simp] theorem pick_cons (i : Nat) (π : List Nat) (us : List U) : pick (i :: π) [] us = match us[i]? with
  | some u => u :: pick π [] us
  | none => pick π [] us := by
  unfold pick
  simp only [List.nil_append, List.filterMap_cons]
  cases us[i]? <;> rfl
end HV

/-! W3: the steps of V10's words. -/
namespace HV
open PySem PySem.Spec PyProof.Rows L2 HA
def zipU (xs ys : List U) : List U := (xs.zip ys).map fun p => .tup [p.1, p.2]
section
variable {α β : Type} (Γ : UEnv) (X : ExK) (k : U → Prop) (kl : List U → Prop)
@[simp ↓] theorem vC_tup (ds : List D) : vC (.tup ds) Γ X k = k (.tup (toUs ds)) := nrfl rfl
theorem vIn_tup (u : U) (us : List U) (kb : Bool → Prop) : vIn u (.tup us) X kb = uIn u us kb := by unfold vIn; cases u <;> rfl
@[simp ↓] theorem vLc2_def (pi : VE (List U)) (vt : VTM) (pt : VE Bool) (pi1 : VE (List U)) (vt1 : VTM) (pt1 : VE Bool) (pe : VE U) (vs vs1 : List Nat) : vLc2 pi vt pt pi1 vt1 pt1 pe vs vs1 Γ X k = pi Γ X fun us => us.length ≤ 4096 ∧ lcL vt pt (vInn pi1 vt1 pt1 pe vs1) (wipeU Γ vs) us (fun yss => k (.lst (flatU yss))) () := nrfl rfl
@[simp ↓] theorem vInn_def (pi1 : VE (List U)) (vt1 : VTM) (pt1 : VE Bool) (pe : VE U) (vs1 : List Nat) : vInn pi1 vt1 pt1 pe vs1 Γ X k = pi1 Γ XF fun us1 => us1.length ≤ 4096 ∧ lcL vt1 pt1 pe (wipeU Γ vs1) us1 (fun ys => k (.lst ys)) () := nrfl rfl
@[simp ↓] theorem vZip_ll (st : Bool) (xs ys : List U) : vZip st (.lst xs) (.lst ys) X kl = ((st = true → xs.length = ys.length) ∧ kl (zipU xs ys)) := nrfl rfl
@[simp ↓] theorem vZip_lt (st : Bool) (xs ys : List U) : vZip st (.lst xs) (.tup ys) X kl = ((st = true → xs.length = ys.length) ∧ kl (zipU xs ys)) := nrfl rfl
@[simp ↓] theorem vZip_tl (st : Bool) (xs ys : List U) : vZip st (.tup xs) (.lst ys) X kl = ((st = true → xs.length = ys.length) ∧ kl (zipU xs ys)) := nrfl rfl
@[simp ↓] theorem vZip_tt (st : Bool) (xs ys : List U) : vZip st (.tup xs) (.tup ys) X kl = ((st = true → xs.length = ys.length) ∧ kl (zipU xs ys)) := nrfl rfl
theorem zipU_map (f : α → U) (g : β → U) (xs : List α) (ys : List β) : zipU (xs.map f) (ys.map g) = (xs.zip ys).map fun p => .tup [f p.1, g p.2] := by
  unfold zipU
  rw [List.zip_map, List.map_map]
  rfl
theorem flatU_map (f : α → List U) (xs : List α) : flatU (xs.map fun x => .lst (f x)) = (xs.map f).flatten := by
  unfold flatU
  rw [List.map_map]
  rfl
@[simp] theorem flatU_nil : flatU [] = [] := nrfl rfl
theorem pairs_optAll : ∀ (ps : List (Int × Int)), optAll uPair (ps.map uOfPair) = some ps
  | [] => rfl
  | p :: ps => by rw [List.map_cons]; unfold optAll; rw [pairs_optAll ps]; rfl
theorem vSort_pairs (ps : List (Int × Int)) : vSort (ps.map uOfPair) X kl = kl ((ps.mergeSort lexLe).map uOfPair) := by
  unfold vSort
  cases ps with
  | nil => simp [optAll]
  | cons p ps =>
    rw [pairs_optAll]
    rfl
theorem vSort_ints (ns : List Int) : vSort (ns.map U.int) X kl = kl ((ns.mergeSort intLe).map U.int) := by
  unfold vSort
  rw [ints_optAll]
end
@[simp] theorem cut_most {α : Type} (xs : List α) : HA.cut xs none (some (-1)) = xs.dropLast := by
  unfold HA.cut
  rw [HT.sIx_none]
  have : HT.sIx xs.length xs.length (some (-1)) = xs.length - 1 := by
    show (if (-1 : Int) < 0 then ((-1 : Int) + (xs.length : Int)).toNat else min (-1 : Int).toNat xs.length) = xs.length - 1
    rw [if_pos (by decide)]
    omega
  rw [this, List.dropLast_eq_take]
  simp
theorem lcL_mapI {vt : VTM} {pe : VE U} {Γ : UEnv} (f : U → U) (us : List U) (k : List U → Prop) (d : Dm (vYes, pe, k)) (h : ∀ u, u ∈ us → ∃ bs, vt u = some bs ∧ (∀ k, pe (setU Γ bs) XF k = k (f u))) : lcL vt vYes pe Γ us k d = k (us.map f) := by
  have := lcL_map1 (vt := vt) (pe := pe) (Γ := Γ) id f us k d h
  rwa [List.map_id] at this
theorem all_yes (us : List U) : vAll (us.map fun _ => U.bl true) = fun _ k => k (.bl true) := by
  funext X k
  rw [vAll_map]
  have : (us.all fun _ => true) = true := by simp
  rw [this]
theorem all_yesM {α : Type} (us : List α) : vAll (us.map fun _ => U.bl true) = fun _ k => k (.bl true) := by
  funext X k
  rw [vAll_map]
  have : (us.all fun _ => true) = true := by simp
  rw [this]
/-- neighbours -/
theorem zip_next {α : Type} {Q : α → α → Prop} : ∀ {xs : List α}, xs.Pairwise Q → ∀ p ∈ xs.dropLast.zip xs.tail, Q p.1 p.2
  | [], _, p, h => by simp at h
  | [x], _, p, h => by simp at h
  | x :: y :: xs, hp, p, h => by
    rw [List.dropLast_cons₂, List.tail_cons, List.zip_cons_cons, List.mem_cons] at h
    rw [List.pairwise_cons] at hp
    rcases h with rfl | h
    · exact hp.1 y List.mem_cons_self
    · exact zip_next hp.2 p h
@[simp] theorem ty_NoneType_int : tyIs "NoneType" "int" = false := by decide
@[simp] theorem ty_NoneType_str : tyIs "NoneType" "str" = false := by decide
@[simp] theorem ty_NoneType_bool : tyIs "NoneType" "bool" = false := by decide
@[simp] theorem ty_NoneType_tuple : tyIs "NoneType" "tuple" = false := by decide
@[simp] theorem ty_NoneType_list : tyIs "NoneType" "list" = false := by decide
@[simp] theorem ty_NoneType_dict : tyIs "NoneType" "dict" = false := by decide
@[simp] theorem ty_bool_int : tyIs "bool" "int" = true := by decide
@[simp] theorem ty_bool_str : tyIs "bool" "str" = false := by decide
@[simp] theorem ty_bool_bool : tyIs "bool" "bool" = true := by decide
@[simp] theorem ty_bool_tuple : tyIs "bool" "tuple" = false := by decide
@[simp] theorem ty_bool_list : tyIs "bool" "list" = false := by decide
@[simp] theorem ty_bool_dict : tyIs "bool" "dict" = false := by decide
@[simp] theorem ty_int_int : tyIs "int" "int" = true := by decide
@[simp] theorem ty_int_str : tyIs "int" "str" = false := by decide
@[simp] theorem ty_int_bool : tyIs "int" "bool" = false := by decide
@[simp] theorem ty_int_tuple : tyIs "int" "tuple" = false := by decide
@[simp] theorem ty_int_list : tyIs "int" "list" = false := by decide
@[simp] theorem ty_int_dict : tyIs "int" "dict" = false := by decide
@[simp] theorem ty_str_int : tyIs "str" "int" = false := by decide
@[simp] theorem ty_str_str : tyIs "str" "str" = true := by decide
@[simp] theorem ty_str_bool : tyIs "str" "bool" = false := by decide
@[simp] theorem ty_str_tuple : tyIs "str" "tuple" = false := by decide
@[simp] theorem ty_str_list : tyIs "str" "list" = false := by decide
@[simp] theorem ty_str_dict : tyIs "str" "dict" = false := by decide
@[simp] theorem ty_tuple_int : tyIs "tuple" "int" = false := by decide
@[simp] theorem ty_tuple_str : tyIs "tuple" "str" = false := by decide
@[simp] theorem ty_tuple_bool : tyIs "tuple" "bool" = false := by decide
@[simp] theorem ty_tuple_tuple : tyIs "tuple" "tuple" = true := by decide
@[simp] theorem ty_tuple_list : tyIs "tuple" "list" = false := by decide
@[simp] theorem ty_tuple_dict : tyIs "tuple" "dict" = false := by decide
@[simp] theorem ty_list_int : tyIs "list" "int" = false := by decide
@[simp] theorem ty_list_str : tyIs "list" "str" = false := by decide
@[simp] theorem ty_list_bool : tyIs "list" "bool" = false := by decide
@[simp] theorem ty_list_tuple : tyIs "list" "tuple" = false := by decide
@[simp] theorem ty_list_list : tyIs "list" "list" = true := by decide
@[simp] theorem ty_list_dict : tyIs "list" "dict" = false := by decide
@[simp] theorem ty_dict_int : tyIs "dict" "int" = false := by decide
@[simp] theorem ty_dict_str : tyIs "dict" "str" = false := by decide
@[simp] theorem ty_dict_bool : tyIs "dict" "bool" = false := by decide
@[simp] theorem ty_dict_tuple : tyIs "dict" "tuple" = false := by decide
@[simp] theorem ty_dict_list : tyIs "dict" "list" = false := by decide
@[simp] theorem ty_dict_dict : tyIs "dict" "dict" = true := by decide
end HV

/-! W4: == and in of plain data (no truths, no dicts): sameness. -/
namespace HV
open PySem PySem.Spec PyProof.Rows L2 HA
mutual
def plainP : PyData → Bool
  | .none | .int _ | .str _ => true
  | .tuple xs | .list xs => plainPs xs
  | _ => false
def plainPs : List PyData → Bool
  | [] => true
  | x :: xs => plainP x && plainPs xs
end
mutual
theorem eqv_plain : ∀ p q : PyData, plainP p = true → plainP q = true → (PyData.eqv p q = true ↔ p = q)
  | .none, q, hp, hq => by cases q <;> simp_all [PyData.eqv, plainP]
  | .int i, q, hp, hq => by cases q <;> simp_all [PyData.eqv, plainP]
  | .str i, q, hp, hq => by cases q <;> simp_all [PyData.eqv, plainP]
  | .tuple xs, q, hp, hq => by
    cases q with
    | tuple ys =>
      simp only [plainP] at hp hq
      simp only [PyData.eqv, PyData.tuple.injEq]
      exact eqv_plains xs ys hp hq
    | _ => simp_all [PyData.eqv, plainP]
  | .list xs, q, hp, hq => by
    cases q with
    | list ys =>
      simp only [plainP] at hp hq
      simp only [PyData.eqv, PyData.list.injEq]
      exact eqv_plains xs ys hp hq
    | _ => simp_all [PyData.eqv, plainP]
  | .bool b, q, hp, hq => by simp [plainP] at hp
  | .dict b, q, hp, hq => by simp [plainP] at hp
theorem eqv_plains : ∀ p q : List PyData, plainPs p = true → plainPs q = true → (PyData.eqvAll p q = true ↔ p = q)
  | [], q, hp, hq => by cases q <;> simp [PyData.eqvAll]
  | x :: xs, q, hp, hq => by
    cases q with
    | nil => simp [PyData.eqvAll]
    | cons y ys =>
      simp only [plainPs, Bool.and_eq_true] at hp hq
      simp only [PyData.eqvAll, Bool.and_eq_true, List.cons.injEq]
      rw [eqv_plain x y hp.1 hq.1, eqv_plains xs ys hp.2 hq.2]
end
/-- plain data that can be compared -/
def Pl (n : Nat) (u : U) : Prop := ∃ p, uP n u = some p ∧ p.canLay0 = true ∧ plainP p = true
def Pls (n : Nat) (us : List U) : Prop := ∃ ps, optAll (uP n) us = some ps ∧ PyData.canLayAll0 ps = true ∧ plainPs ps = true
theorem Pl.mono {n n' : Nat} {u : U} (h : Pl n u) (hn : n ≤ n') : Pl n' u := let ⟨p, h1, h2⟩ := h; ⟨p, uP_le hn u p h1, h2⟩
theorem Pl.non {n : Nat} : Pl (n + 1) .non := ⟨.none, rfl, rfl, rfl⟩
theorem Pl.int {n : Nat} {i : Int} : Pl (n + 1) (.int i) := ⟨.int i, rfl, rfl, rfl⟩
theorem Pl.str {n : Nat} {x : Str} (h : PyData.strOk x = true) : Pl (n + 1) (.str x) := ⟨.str x, rfl, h, rfl⟩
theorem Pls.nil {n : Nat} : Pls n [] := ⟨[], rfl, rfl, rfl⟩
theorem Pls.cons {n : Nat} {u : U} {us : List U} (h : Pl n u) (t : Pls n us) : Pls n (u :: us) := by
  obtain ⟨p, h1, h2, h3⟩ := h
  obtain ⟨ps, t1, t2, t3⟩ := t
  exact ⟨p :: ps, by simp [optAll, h1, t1], by simp [PyData.canLayAll0, h2, t2], by simp [plainPs, h3, t3]⟩
theorem Pls.all {n : Nat} : ∀ {us : List U}, (∀ u ∈ us, Pl n u) → Pls n us
  | [], _ => Pls.nil
  | u :: us, h => Pls.cons (h u List.mem_cons_self) (Pls.all fun v hv => h v (List.mem_cons_of_mem _ hv))
theorem Pl.tup {n : Nat} {us : List U} (h : Pls n us) : Pl (n + 1) (.tup us) := by
  obtain ⟨ps, h1, h2, h3⟩ := h
  exact ⟨.tuple ps, by simp [uP, h1], h2, h3⟩
theorem Pl.lst {n : Nat} {us : List U} (h : Pls n us) : Pl (n + 1) (.lst us) := by
  obtain ⟨ps, h1, h2, h3⟩ := h
  exact ⟨.list ps, by simp [uP, h1], h2, h3⟩
theorem Pls.ints {n : Nat} (ns : List Int) : Pls (n + 1) (ns.map U.int) := Pls.all fun u hu => by obtain ⟨i, _, rfl⟩ := List.mem_map.mp hu; exact Pl.int
theorem uP_inj : ∀ (f : Nat) (u v : U) (p : PyData), uP f u = some p → uP f v = some p → plainP p = true → u = v
  | 0, _, _, _, h, _, _ => by simp [uP] at h
  | f + 1, u, v, p, hu, hv, hp => by
    have ih := uP_inj f
    have key : ∀ (us vs : List U) (ps : List PyData), optAll (uP f) us = some ps → optAll (uP f) vs = some ps → plainPs ps = true → us = vs := by
      intro us
      induction us with
      | nil => intro vs ps h1 h2 _; cases h1; cases vs with
        | nil => rfl
        | cons v vs => unfold optAll at h2; split at h2 <;> cases h2
      | cons u us ihs =>
        intro vs ps h1 h2 h3
        unfold optAll at h1
        split at h1
        · rename_i a b ea eb
          cases h1
          cases vs with
          | nil => cases h2
          | cons v vs =>
            unfold optAll at h2
            split at h2
            · rename_i c d ec ed
              cases h2
              simp only [plainPs, Bool.and_eq_true] at h3
              rw [ih u v _ ea ec h3.1, ihs vs _ eb ed h3.2]
            · cases h2
        · cases h1
    cases u <;> cases v <;> simp only [uP, Option.map_eq_some_iff, Option.some.injEq, reduceCtorEq] at hu hv
    all_goals first
      | (obtain ⟨a, ha, rfl⟩ := hu; obtain ⟨b, hb, e⟩ := hv; cases e; simp only [plainP] at hp; rw [key _ _ _ ha hb hp]; done)
      | (obtain ⟨a, ha, rfl⟩ := hu; simp [plainP] at hp; done)
      | (obtain ⟨a, ha, rfl⟩ := hu; obtain ⟨b, hb, e⟩ := hv; cases e; done)
      | (obtain ⟨a, ha, rfl⟩ := hu; cases hv; done)
      | (subst hu; obtain ⟨b, hb, e⟩ := hv; cases e; done)
      | (subst hu; cases hv; rfl)
      | (subst hu; cases hv; done)
theorem Pl.eqv {u v : U} {p q : PyData} (h1 : uP 63 u = some p) (h2 : uP 63 v = some q) (h3 : plainP p = true) (h4 : plainP q = true) : PyData.eqv p q = true ↔ u = v := by
  rw [eqv_plain p q h3 h4]
  exact ⟨fun e => by subst e; exact uP_inj 63 u v p h1 h2 h3, fun e => by subst e; rw [h1] at h2; exact Option.some.inj h2⟩
theorem Pl.shaped {n : Nat} {u : U} (h : Pl n u) (hn : n ≤ 63) : ∃ p, uP 63 u = some p ∧ SeqAt.shaped p = true ∧ plainP p = true := by
  obtain ⟨p, h1, h2, h3⟩ := h.mono hn
  refine ⟨p, h1, ?_, h3⟩
  have := uP_depth 63 u p h1
  unfold SeqAt.shaped
  rw [h2, Bool.true_and, decide_eq_true_eq]
  omega
section
variable {X : ExK} {kb : Bool → Prop}
theorem vEq_pl {n m : Nat} {u v : U} {b : Bool} (h : Pl n u) (g : Pl m v) (hb : b = true ↔ u = v) (hn : n ≤ 63 := by decide) (hm : m ≤ 63 := by decide) : vEq u v X kb = kb b := by
  obtain ⟨p, h1, h2, h3⟩ := h.shaped hn
  obtain ⟨q, g1, g2, g3⟩ := g.shaped hm
  have e := Pl.eqv h1 g1 h3 g3
  have eb : PyData.eqv p q = b := by rw [Bool.eq_iff_iff, e, hb]
  unfold vEq
  split
  · congr 1; rw [Bool.eq_iff_iff, hb]; simp
  · congr 1; rw [Bool.eq_iff_iff, hb]; simp
  · congr 1; rw [Bool.eq_iff_iff, hb]; simp
  · rename_i ys
    congr 1; rw [Bool.eq_iff_iff, hb]; cases ys <;> simp
  · rename_i ys _
    congr 1; rw [Bool.eq_iff_iff, hb]; cases ys <;> simp
  · rw [h1, g1]
    simp only [h2, g2, eb, true_and, and_self]
theorem vEq_ints (ns ms : List Int) : vEq (.tup (ns.map U.int)) (.tup (ms.map U.int)) X kb = kb (decide (ns = ms)) := by
  refine vEq_pl (Pl.tup (Pls.ints (n := 0) ns)) (Pl.tup (Pls.ints (n := 0) ms)) ?_
  rw [decide_eq_true_eq]
  exact ⟨fun e => by rw [e], fun e => by
    injection e with e
    exact (List.map_inj_right (f := U.int) (fun a b h => by injection h)).mp e⟩
theorem uIn_pl {n m : Nat} {u : U} {us : List U} {b : Bool} (h : Pl n u) (g : Pls m us) (hb : b = true ↔ u ∈ us) (hn : n ≤ 63 := by decide) (hm : m ≤ 62 := by decide) : uIn u us kb = kb b := by
  obtain ⟨p, h1, h2, h3⟩ := h.shaped hn
  obtain ⟨qs, g1, g2, g3⟩ := g
  have g1' := optAll_mono (uP_le hm) g1
  have key : ∀ (us : List U) (qs : List PyData), optAll (uP 62) us = some qs → plainPs qs = true → ((qs.any fun z => PyData.eqv z p) = true ↔ u ∈ us) := by
    intro us
    induction us with
    | nil => intro qs e _; cases e; simp
    | cons v us ih =>
      intro qs e hp
      unfold optAll at e
      split at e
      · rename_i a b ea eb
        cases e
        simp only [plainPs, Bool.and_eq_true] at hp
        rw [List.any_cons, Bool.or_eq_true, ih b eb hp.2, List.mem_cons, Pl.eqv (uP_le (by decide) v a ea) h1 hp.1 h3]
        exact or_congr_left ⟨fun e => e.symm, fun e => e.symm⟩
      · cases e
  unfold uIn
  rw [h1, g1']
  simp only [h2, g2, true_and, and_self]
  congr 1
  rw [Bool.eq_iff_iff, hb]
  exact key us qs g1' g3
theorem vIn_ints (i : Int) (ns : List Int) : vIn (.int i) (.tup (ns.map U.int)) X kb = kb (decide (i ∈ ns)) := by
  rw [vIn_tup]
  refine uIn_pl (Pl.int (n := 0)) (Pls.ints (n := 0) ns) ?_
  simp
end
theorem range_filter (n k : Nat) : ((List.range n).filter fun i => decide (i < k)) = List.range (min n k) := by
  induction n with
  | zero => simp
  | succ n ih =>
    rw [List.range_succ, List.filter_append, ih]
    by_cases h : n < k
    · rw [Nat.min_eq_left (by omega), Nat.min_eq_left (by omega), List.range_succ]
      simp [h]
    · rw [Nat.min_eq_right (by omega), Nat.min_eq_right (by omega)]
      simp [h]
theorem rng_below {a b c : Int} (h : b ≤ c) {p : Int → Bool} (hp : ∀ x, a ≤ x → p x = decide (x < b)) : (rng a c).filter p = rng a b := by
  unfold rng
  rw [List.filter_map]
  have : (p ∘ fun (n : Nat) => a + (n : Int)) = fun n => decide (n < (b - a).toNat) := by
    funext n
    show p (a + (n : Int)) = _
    rw [hp _ (by omega)]
    rw [Bool.eq_iff_iff]
    simp only [decide_eq_true_eq]
    omega
  rw [this, range_filter, Nat.min_eq_right (by omega)]
end HV

namespace HL
open PySem PySem.Spec PyProof.Rows L2 HA
def top (i : Nat) : Stmt := PySem.Challenge.pw_heldaddresses_k18_whole_rooms_at_right_b.main.body.getD i (.Pass ⟨0, 0, 0, 0⟩)
abbrev s_is_whole : Stmt := top 3
abbrev s_is_within : Stmt := top 4
abbrev s_is_number : Stmt := top 5
abbrev s_is_address : Stmt := top 6
abbrev s_first_state : Stmt := top 17
abbrev s_end_of : Stmt := top 18
abbrev s_is_here : Stmt := top 19
abbrev s_is_held : Stmt := top 20
abbrev s_are_held : Stmt := top 21
abbrev s_is_room : Stmt := top 22
abbrev s_are_apart : Stmt := top 23
abbrev s_is_of_rooms : Stmt := top 24
abbrev s_is_state : Stmt := top 25
abbrev s_right_bases : Stmt := top 26
abbrev s__law_deck : Stmt := top 28
abbrev s__law_draw : Stmt := top 29
abbrev s__law_pick : Stmt := top 30
abbrev s__law_number : Stmt := top 31
abbrev s__law_any_value : Stmt := top 32
abbrev s__law_state : Stmt := top 33
abbrev s__law_held_at : Stmt := top 34
abbrev s__law_gone_at : Stmt := top 35
abbrev s__law_is_right : Stmt := top 36
abbrev s__law_behind_right : Stmt := top 37
abbrev s__law_wider_right : Stmt := top 38
abbrev s_law : Stmt := top 39
def c_NUMBERS : D := .int 1000
def c_NO_ROOM : D := .int (-1)
def c_REGISTERS : D := .str "abcdefgh"
def c_LEAST_SPAN : D := .int 2
def c_MOST_SPAN : D := .int 999
def c_MOST_SIZE : D := .int 80
def c_GONE : D := .str "gone"
def c_MODES : D := .tup [.str "held", .str "shown", .str "gone"]
def c_PARTS : D := .int 4
structure Txt (K : PySem.W.Frag) (mg : Str → Option Value) where
  is_whole : TF K mg "is_whole" s_is_whole ["thing"]
  is_within : TF K mg "is_within" s_is_within ["thing", "least", "most"]
  is_number : TF K mg "is_number" s_is_number ["thing"]
  is_address : TF K mg "is_address" s_is_address ["thing"]
  first_state : TF K mg "first_state" s_first_state ["span"]
  end_of : TF K mg "end_of" s_end_of ["room"]
  is_here : TF K mg "is_here" s_is_here ["room"]
  is_held : TF K mg "is_held" s_is_held ["thing"]
  are_held : TF K mg "are_held" s_are_held ["thing", "many"]
  is_room : TF K mg "is_room" s_is_room ["thing", "span"]
  are_apart : TF K mg "are_apart" s_are_apart ["rooms"]
  is_of_rooms : TF K mg "is_of_rooms" s_is_of_rooms ["rooms", "value"]
  is_state : TF K mg "is_state" s_is_state ["thing"]
  right_bases : TF K mg "right_bases" s_right_bases ["state", "size"]
  _law_deck : TF K mg "_law_deck" s__law_deck ["_law_script"]
  _law_draw : TF K mg "_law_draw" s__law_draw ["_law_deck_here", "_law_most"]
  _law_pick : TF K mg "_law_pick" s__law_pick ["_law_deck_here", "_law_some"]
  _law_number : TF K mg "_law_number" s__law_number ["_law_deck_here"]
  _law_any_value : TF K mg "_law_any_value" s__law_any_value ["_law_deck_here", "_law_rooms"]
  _law_state : TF K mg "_law_state" s__law_state ["_law_deck_here", "_law_most"]
  _law_held_at : TF K mg "_law_held_at" s__law_held_at ["_law_state_here", "_law_base", "_law_size"]
  _law_gone_at : TF K mg "_law_gone_at" s__law_gone_at ["_law_state_here", "_law_at"]
  _law_is_right : TF K mg "_law_is_right" s__law_is_right ["_law_state_here", "_law_many"]
  _law_behind_right : TF K mg "_law_behind_right" s__law_behind_right ["_law_state_here", "_law_base", "_law_many", "_law_size"]
  _law_wider_right : TF K mg "_law_wider_right" s__law_wider_right ["_law_state_here", "_law_many"]
  law : TF K mg "law" s_law ["_law_script"]
  n_all : mg "all" = none
  n_bool : mg "bool" = none
  n_int : mg "int" = none
  n_isinstance : mg "isinstance" = none
  n_len : mg "len" = none
  n_list : mg "list" = none
  n_range : mg "range" = none
  n_repr : mg "repr" = none
  n_reversed : mg "reversed" = none
  n_sorted : mg "sorted" = none
  n_str : mg "str" = none
  n_sum : mg "sum" = none
  n_tuple : mg "tuple" = none
  n_zip : mg "zip" = none
  c_NUMBERS : ∃ u, mg "NUMBERS" = some u ∧ CR K u c_NUMBERS
  c_NO_ROOM : ∃ u, mg "NO_ROOM" = some u ∧ CR K u c_NO_ROOM
  c_REGISTERS : ∃ u, mg "REGISTERS" = some u ∧ CR K u c_REGISTERS
  c_LEAST_SPAN : ∃ u, mg "LEAST_SPAN" = some u ∧ CR K u c_LEAST_SPAN
  c_MOST_SPAN : ∃ u, mg "MOST_SPAN" = some u ∧ CR K u c_MOST_SPAN
  c_MOST_SIZE : ∃ u, mg "MOST_SIZE" = some u ∧ CR K u c_MOST_SIZE
  c_GONE : ∃ u, mg "GONE" = some u ∧ CR K u c_GONE
  c_MODES : ∃ u, mg "MODES" = some u ∧ CR K u c_MODES
  c_PARTS : ∃ u, mg "PARTS" = some u ∧ CR K u c_PARTS
section
variable {P : Program} {w : World} {K : PySem.W.Frag} {mg : Str → Option Value} {base : Heap}
theorem sc_is_whole : FnScope ["thing"] ["thing"] (defScope s_is_whole) := ⟨rfl, rfl, rfl, by decide +kernel, rfl, by decide +kernel, by decide +kernel⟩
def b_is_whole : SM := (sRet (eAnd (e1 (aCons (eVar 0) (aCons (eC (.cst (.ty "int"))) aNil)) oIsi) (eNot (e1 (aCons (eVar 0) (aCons (eC (.cst (.ty "bool"))) aNil)) oIsi))))
def m_is_whole : List D → AH → Res D := fnR 1 1 b_is_whole
theorem ok_is_whole (T : Txt K mg) : FnG P w K mg base 1 T.is_whole.a T.is_whole.fd ["thing"] m_is_whole := by
  refine fnG_R T.is_whole.F sc_is_whole (fun cdv A lo s H E hr => ?_)
  exact (pzs_one (pz_ret (pd_and (pd_callB cd_isi rfl T.n_isinstance (by decide +kernel) (pas_cons (pd_var 0) (pas_cons (pd_ty rfl T.n_int (by decide +kernel)) pas_nil))) (pd_one (pd_not (pd_callB cd_isi rfl T.n_isinstance (by decide +kernel) (pas_cons (pd_var 0) (pas_cons (pd_ty rfl T.n_bool (by decide +kernel)) pas_nil))))))))
theorem sc_is_within : FnScope ["thing", "least", "most"] ["thing", "least", "most"] (defScope s_is_within) := ⟨rfl, rfl, rfl, by decide +kernel, rfl, by decide +kernel, by decide +kernel⟩
def b_is_within : SM := (sRet (eAnd (e1 (aCons (eVar 0) aNil) m_is_whole) (eB (bChain (eVar 1) (eVar 0) (eVar 2) cLe cLe))))
def m_is_within : List D → AH → Res D := fnR 3 3 b_is_within
theorem ok_is_within (T : Txt K mg) : FnG P w K mg base 2 T.is_within.a T.is_within.fd ["thing", "least", "most"] m_is_within := by
  have H_is_whole : FnG P w K mg base 1 T.is_whole.a T.is_whole.fd ["thing"] (m_is_whole) := (ok_is_whole T).mono (by omega)
  refine fnG_R T.is_within.F sc_is_within (fun cdv A lo s H E hr => ?_)
  exact (pzs_one (pz_ret (pd_and (pd_call H_is_whole hr rfl T.is_whole.g T.is_whole.k T.is_whole.b (takes_of rfl rfl rfl rfl) (pas_cons (pd_var 0) pas_nil) (many_cons many_nil)) (pd_one (pd_chain od_le od_le (pd_var 1) (pd_var 0) (pd_var 2))))))
theorem sc_is_number : FnScope ["thing"] ["thing"] (defScope s_is_number) := ⟨rfl, rfl, rfl, by decide +kernel, rfl, by decide +kernel, by decide +kernel⟩
def b_is_number : SM := (sRet (e1 (aCons (eVar 0) (aCons (eC (.int 0)) (aCons (e2 (eC c_NUMBERS) (eC (.int 1)) oSub) aNil))) m_is_within))
def m_is_number : List D → AH → Res D := fnR 1 1 b_is_number
theorem ok_is_number (T : Txt K mg) : FnG P w K mg base 3 T.is_number.a T.is_number.fd ["thing"] m_is_number := by
  have H_is_within : FnG P w K mg base 2 T.is_within.a T.is_within.fd ["thing", "least", "most"] (m_is_within) := (ok_is_within T).mono (by omega)
  refine fnG_R T.is_number.F sc_is_number (fun cdv A lo s H E hr => ?_)
  exact (pzs_one (pz_ret (pd_call H_is_within hr rfl T.is_within.g T.is_within.k T.is_within.b (takes_of rfl rfl rfl rfl) (pas_cons (pd_var 0) (pas_cons pd_int (pas_cons (pd_op od_sub (pd_const rfl T.c_NUMBERS) pd_int) pas_nil))) (many_cons (many_cons (many_cons many_nil))))))
theorem sc_is_address : FnScope ["thing", "whence", "place"] ["thing"] (defScope s_is_address) := ⟨rfl, rfl, rfl, by decide +kernel, rfl, by decide +kernel, by decide +kernel⟩
def b_is_address : SM := (sSeq (sIf (bOr (bNot (e1 (e1 (aCons (eVar 0) (aCons (eC (.cst (.ty "tuple"))) aNil)) oIsi) truth)) (e2 (e1 (aCons (eVar 0) aNil) oLenA) (eC (.int 2)) cNe)) (sRet (eC (.bl false))) sSkip) (sSeq (sAsg (eVar 0) (gTupD 2 (gConsD (gSet 1) (gConsD (gSet 2) gNilD)))) (sRet (eAnd (e1 (aCons (eVar 1) aNil) m_is_whole) (eAnd (eB (e2 (eVar 1) (eC c_NO_ROOM) cGe)) (e1 (aCons (eVar 2) aNil) m_is_number))))))
def m_is_address : List D → AH → Res D := fnR 3 1 b_is_address
theorem ok_is_address (T : Txt K mg) : FnG P w K mg base 4 T.is_address.a T.is_address.fd ["thing"] m_is_address := by
  have H_is_whole : FnG P w K mg base 3 T.is_whole.a T.is_whole.fd ["thing"] (m_is_whole) := (ok_is_whole T).mono (by omega)
  have H_is_number : FnG P w K mg base 3 T.is_number.a T.is_number.fd ["thing"] (m_is_number) := (ok_is_number T).mono (by omega)
  refine fnG_R T.is_address.F sc_is_address (fun cdv A lo s H E hr => ?_)
  exact (pzs_cons (pz_if (pbw (pbw_or (pb_not (pb_val (pd_callB cd_isi rfl T.n_isinstance (by decide +kernel) (pas_cons (pd_var 0) (pas_cons (pd_ty rfl T.n_tuple (by decide +kernel)) pas_nil))))) (pbw_or1 (pb_cmp (od_ne hr) (pd_callB cd_len rfl T.n_len (by decide +kernel) (pas_cons (pd_var 0) pas_nil)) pd_int)))) (pzs_one (pz_ret pd_bl)) pzs_nil)
    (pzs_cons (pz_asg (pd_var 0) (pt_tup rfl (ptn_cons (pt_name sc_is_address.nd rfl (by first | exact Or.inl rfl | exact Or.inr rfl)) (ptn_cons (pt_name sc_is_address.nd rfl (by first | exact Or.inl rfl | exact Or.inr rfl)) ptn_nil))))
    (pzs_one (pz_ret (pd_and (pd_call H_is_whole hr rfl T.is_whole.g T.is_whole.k T.is_whole.b (takes_of rfl rfl rfl rfl) (pas_cons (pd_var 1) pas_nil) (many_cons many_nil)) (pd_and (pd_cmp od_ge (pd_var 1) (pd_const rfl T.c_NO_ROOM)) (pd_one (pd_call H_is_number hr rfl T.is_number.g T.is_number.k T.is_number.b (takes_of rfl rfl rfl rfl) (pas_cons (pd_var 2) pas_nil) (many_cons many_nil)))))))))
theorem sc_first_state : FnScope ["span"] ["span"] (defScope s_first_state) := ⟨rfl, rfl, rfl, by decide +kernel, rfl, by decide +kernel, by decide +kernel⟩
def b_first_state : SM := (sRet (eTup (aCons (eVar 0) (aCons (eTup aNil) (aCons (e2 (eTup (aCons (eC (.non)) aNil)) (e1 (aCons (eC c_REGISTERS) aNil) oLenA) oMulT) (aCons (eTup aNil) aNil))))))
def m_first_state : List D → AH → Res D := fnR 1 1 b_first_state
theorem ok_first_state (T : Txt K mg) : FnG P w K mg base 1 T.first_state.a T.first_state.fd ["span"] m_first_state := by
  refine fnG_R T.first_state.F sc_first_state (fun cdv A lo s H E hr => ?_)
  exact (pzs_one (pz_ret (pd_tup (pas_cons (pd_var 0) (pas_cons (pd_tup pas_nil) (pas_cons (pd_op od_mulT (pd_tup (pas_cons pd_non pas_nil)) (pd_callB cd_len rfl T.n_len (by decide +kernel) (pas_cons (pd_const rfl T.c_REGISTERS) pas_nil))) (pas_cons (pd_tup pas_nil) pas_nil)))))))
theorem sc_end_of : FnScope ["room", "base", "size", "others"] ["room"] (defScope s_end_of) := ⟨rfl, rfl, rfl, by decide +kernel, rfl, by decide +kernel, by decide +kernel⟩
def b_end_of : SM := (sSeq (sAsgX (eVar 0) (gStarD 2 (gConsD (gSet 1) (gConsD (gSet 2) (gConsD (gSet 3) gNilD))))) (sRet (e2 (eVar 1) (eVar 2) oAddA)))
def m_end_of : List D → AH → Res D := fnR 4 1 b_end_of
theorem ok_end_of (T : Txt K mg) : FnG P w K mg base 1 T.end_of.a T.end_of.fd ["room"] m_end_of := by
  refine fnG_R T.end_of.F sc_end_of (fun cdv A lo s H E hr => ?_)
  exact (pzs_cons (pz_asgX (pd_var 0) (pt_star rfl (ptn_cons (pt_name sc_end_of.nd rfl (by first | exact Or.inl rfl | exact Or.inr rfl)) (ptn_cons (pt_name sc_end_of.nd rfl (by first | exact Or.inl rfl | exact Or.inr rfl)) (ptn_cons (pt_name sc_end_of.nd rfl (by first | exact Or.inl rfl | exact Or.inr rfl)) ptn_nil)))))
    (pzs_one (pz_ret (pd_op od_addA (pd_var 1) (pd_var 2)))))
theorem sc_is_here : FnScope ["room"] ["room"] (defScope s_is_here) := ⟨rfl, rfl, rfl, by decide +kernel, rfl, by decide +kernel, by decide +kernel⟩
def b_is_here : SM := (sRet (eB (e2 (e2 (eVar 0) (eC (.int 2)) oIx) (eC c_GONE) cNe)))
def m_is_here : List D → AH → Res D := fnR 1 1 b_is_here
theorem ok_is_here (T : Txt K mg) : FnG P w K mg base 1 T.is_here.a T.is_here.fd ["room"] m_is_here := by
  refine fnG_R T.is_here.F sc_is_here (fun cdv A lo s H E hr => ?_)
  exact (pzs_one (pz_ret (pd_cmp (od_ne hr) (pd_ix (pd_var 0) pd_int) (pd_const rfl T.c_GONE))))
theorem sc_is_held : FnScope ["thing"] ["thing"] (defScope s_is_held) := ⟨rfl, rfl, rfl, by decide +kernel, rfl, by decide +kernel, by decide +kernel⟩
def b_is_held : SM := (sRet (eOr (eB (e2 (eVar 0) (eC (.non)) cIs)) (eOr (e1 (aCons (eVar 0) aNil) m_is_number) (e1 (aCons (eVar 0) aNil) m_is_address))))
def m_is_held : List D → AH → Res D := fnR 1 1 b_is_held
theorem ok_is_held (T : Txt K mg) : FnG P w K mg base 5 T.is_held.a T.is_held.fd ["thing"] m_is_held := by
  have H_is_number : FnG P w K mg base 4 T.is_number.a T.is_number.fd ["thing"] (m_is_number) := (ok_is_number T).mono (by omega)
  have H_is_address : FnG P w K mg base 4 T.is_address.a T.is_address.fd ["thing"] (m_is_address) := (ok_is_address T).mono (by omega)
  refine fnG_R T.is_held.F sc_is_held (fun cdv A lo s H E hr => ?_)
  exact (pzs_one (pz_ret (pd_or (pd_cmp od_is (pd_var 0) pd_non) (pd_or (pd_call H_is_number hr rfl T.is_number.g T.is_number.k T.is_number.b (takes_of rfl rfl rfl rfl) (pas_cons (pd_var 0) pas_nil) (many_cons many_nil)) (pd_one (pd_call H_is_address hr rfl T.is_address.g T.is_address.k T.is_address.b (takes_of rfl rfl rfl rfl) (pas_cons (pd_var 0) pas_nil) (many_cons many_nil)))))))
theorem sc_are_held : FnScope ["thing", "many", "one"] ["thing", "many"] (defScope s_are_held) := ⟨rfl, rfl, rfl, by decide +kernel, rfl, by decide +kernel, by decide +kernel⟩
def b_are_held : SM := (sRet (eAnd (e1 (aCons (eVar 0) (aCons (eC (.cst (.ty "tuple"))) aNil)) oIsi) (eAnd (eB (e2 (e1 (aCons (eVar 0) aNil) oLenA) (eVar 1) cEq)) (e1 (lLc (e1 (eVar 0) iVal) (gSet 2) bYes (e1 (aCons (eVar 2) aNil) m_is_held) [2]) sAll))))
def m_are_held : List D → AH → Res D := fnR 3 2 b_are_held
theorem ok_are_held (T : Txt K mg) : FnG P w K mg base 6 T.are_held.a T.are_held.fd ["thing", "many"] m_are_held := by
  have H_is_held : FnG P w K mg base 5 T.is_held.a T.is_held.fd ["thing"] (m_is_held) := (ok_is_held T).mono (by omega)
  refine fnG_R T.are_held.F sc_are_held (fun cdv A lo s H E hr => ?_)
  exact (pzs_one (pz_ret (pd_and (pd_callB cd_isi rfl T.n_isinstance (by decide +kernel) (pas_cons (pd_var 0) (pas_cons (pd_ty rfl T.n_tuple (by decide +kernel)) pas_nil))) (pd_and (pd_cmp (od_eq hr) (pd_callB cd_len rfl T.n_len (by decide +kernel) (pas_cons (pd_var 0) pas_nil)) (pd_var 1)) (pd_one (pg_callSB (cs_all rfl) rfl T.n_all (by decide +kernel) (pm_l (pl_lcv rfl sc_are_held.nd (pf_d (pd_var 0)) (blkOk_by (N := ["thing", "many", "one"]) (sc := defScope s_are_held) (own := [("one", 2)]) (by decide +kernel)) rfl (by decide) (fun _ _ _ _ _ => (pt_name sc_are_held.nd rfl (by first | exact Or.inl rfl | exact Or.inr rfl))) (fun _ _ _ _ _ => ptsd_nil) (fun _ _ _ _ _ => (pd_call H_is_held hr rfl T.is_held.g T.is_held.k T.is_held.b takes0 (pas_cons (pd_var 2) pas_nil) (many_cons many_nil)))))))))))
theorem sc_is_room : FnScope ["thing", "span", "base", "size", "mode", "cells"] ["thing", "span"] (defScope s_is_room) := ⟨rfl, rfl, rfl, by decide +kernel, rfl, by decide +kernel, by decide +kernel⟩
def b_is_room : SM := (sSeq (sIf (bOr (bNot (e1 (e1 (aCons (eVar 0) (aCons (eC (.cst (.ty "tuple"))) aNil)) oIsi) truth)) (e2 (e1 (aCons (eVar 0) aNil) oLenA) (eC c_PARTS) cNe)) (sRet (eC (.bl false))) sSkip) (sSeq (sAsg (eVar 0) (gTupD 4 (gConsD (gSet 2) (gConsD (gSet 3) (gConsD (gSet 4) (gConsD (gSet 5) gNilD)))))) (sSeq (sIf (bOr (bNot (e1 (e1 (aCons (eVar 3) (aCons (eC (.int 1)) (aCons (eC c_MOST_SIZE) aNil))) m_is_within) truth)) (bNot (e1 (e1 (aCons (eVar 2) (aCons (eC (.int 1)) (aCons (e2 (eVar 1) (eVar 3) oSub) aNil))) m_is_within) truth))) (sRet (eC (.bl false))) sSkip) (sSeq (sIf (bOr (bNot (e1 (e1 (aCons (eVar 4) (aCons (eC (.cst (.ty "str"))) aNil)) oIsi) truth)) (e2 (eVar 4) (eC c_MODES) cNotIn)) (sRet (eC (.bl false))) sSkip) (sRet (e1 (aCons (eVar 5) (aCons (eIf (e2 (eVar 4) (eC c_GONE) cNe) (eVar 3) (eC (.int 0))) aNil)) m_are_held))))))
def m_is_room : List D → AH → Res D := fnR 6 2 b_is_room
theorem ok_is_room (T : Txt K mg) : FnG P w K mg base 7 T.is_room.a T.is_room.fd ["thing", "span"] m_is_room := by
  have H_is_within : FnG P w K mg base 6 T.is_within.a T.is_within.fd ["thing", "least", "most"] (m_is_within) := (ok_is_within T).mono (by omega)
  have H_are_held : FnG P w K mg base 6 T.are_held.a T.are_held.fd ["thing", "many"] (m_are_held) := (ok_are_held T).mono (by omega)
  refine fnG_R T.is_room.F sc_is_room (fun cdv A lo s H E hr => ?_)
  exact (pzs_cons (pz_if (pbw (pbw_or (pb_not (pb_val (pd_callB cd_isi rfl T.n_isinstance (by decide +kernel) (pas_cons (pd_var 0) (pas_cons (pd_ty rfl T.n_tuple (by decide +kernel)) pas_nil))))) (pbw_or1 (pb_cmp (od_ne hr) (pd_callB cd_len rfl T.n_len (by decide +kernel) (pas_cons (pd_var 0) pas_nil)) (pd_const rfl T.c_PARTS))))) (pzs_one (pz_ret pd_bl)) pzs_nil)
    (pzs_cons (pz_asg (pd_var 0) (pt_tup rfl (ptn_cons (pt_name sc_is_room.nd rfl (by first | exact Or.inl rfl | exact Or.inr rfl)) (ptn_cons (pt_name sc_is_room.nd rfl (by first | exact Or.inl rfl | exact Or.inr rfl)) (ptn_cons (pt_name sc_is_room.nd rfl (by first | exact Or.inl rfl | exact Or.inr rfl)) (ptn_cons (pt_name sc_is_room.nd rfl (by first | exact Or.inl rfl | exact Or.inr rfl)) ptn_nil))))))
    (pzs_cons (pz_if (pbw (pbw_or (pb_not (pb_val (pd_call H_is_within hr rfl T.is_within.g T.is_within.k T.is_within.b (takes_of rfl rfl rfl rfl) (pas_cons (pd_var 3) (pas_cons pd_int (pas_cons (pd_const rfl T.c_MOST_SIZE) pas_nil))) (many_cons (many_cons (many_cons many_nil)))))) (pbw_or1 (pb_not (pb_val (pd_call H_is_within hr rfl T.is_within.g T.is_within.k T.is_within.b (takes_of rfl rfl rfl rfl) (pas_cons (pd_var 2) (pas_cons pd_int (pas_cons (pd_op od_sub (pd_var 1) (pd_var 3)) pas_nil))) (many_cons (many_cons (many_cons many_nil))))))))) (pzs_one (pz_ret pd_bl)) pzs_nil)
    (pzs_cons (pz_if (pbw (pbw_or (pb_not (pb_val (pd_callB cd_isi rfl T.n_isinstance (by decide +kernel) (pas_cons (pd_var 4) (pas_cons (pd_ty rfl T.n_str (by decide +kernel)) pas_nil))))) (pbw_or1 (pb_cmp (od_notIn hr) (pd_var 4) (pd_const rfl T.c_MODES))))) (pzs_one (pz_ret pd_bl)) pzs_nil)
    (pzs_one (pz_ret (pd_call H_are_held hr rfl T.are_held.g T.are_held.k T.are_held.b (takes_of rfl rfl rfl rfl) (pas_cons (pd_var 5) (pas_cons (pd_if (pb_cmp (od_ne hr) (pd_var 4) (pd_const rfl T.c_GONE)) (pd_var 3) pd_int) pas_nil)) (many_cons (many_cons many_nil)))))))))
theorem sc_are_apart : FnScope ["rooms", "here", "room", "one", "other"] ["rooms"] (defScope s_are_apart) := ⟨rfl, rfl, rfl, by decide +kernel, rfl, by decide +kernel, by decide +kernel⟩
def b_are_apart : SM := (sSeq (sAsg (eNew (e1 (lLc (e1 (eVar 0) iVal) (gSet 2) (e1 (e1 (aCons (eVar 2) aNil) m_is_here) truth) (eTup (aCons (e2 (eVar 2) (eC (.int 0)) oIx) (aCons (e1 (aCons (eVar 2) aNil) m_end_of) aNil))) [2]) lSort)) (gSet 1)) (sRet (e1 (lLc (e2 (eNew (e3 (eVar 1) (oPart none) (oPart (some (e1 (eC (.int 1)) oNeg))) fun d lo hi ah => (HA.listOf d ah).bind fun ds ah => lCut ds lo hi ah)) (eNew (e3 (eVar 1) (oPart (some (eC (.int 1)))) (oPart none) fun d lo hi ah => (HA.listOf d ah).bind fun ds ah => lCut ds lo hi ah)) (iZipD true)) (gTupD 2 (gConsD (gSet 3) (gConsD (gSet 4) gNilD))) bYes (eB (e2 (e2 (eVar 3) (eC (.int 1)) oIx) (e2 (eVar 4) (eC (.int 0)) oIx) cLe)) [3, 4]) sAll)))
def m_are_apart : List D → AH → Res D := fnR 5 1 b_are_apart
theorem ok_are_apart (T : Txt K mg) : FnG P w K mg base 2 T.are_apart.a T.are_apart.fd ["rooms"] m_are_apart := by
  have H_is_here : FnG P w K mg base 1 T.is_here.a T.is_here.fd ["room"] (m_is_here) := (ok_is_here T).mono (by omega)
  have H_end_of : FnG P w K mg base 1 T.end_of.a T.end_of.fd ["room"] (m_end_of) := (ok_end_of T).mono (by omega)
  refine fnG_R T.are_apart.F sc_are_apart (fun cdv A lo s H E hr => ?_)
  exact (pzs_cons (pz_set sc_are_apart.nd rfl (by first | exact Or.inl rfl | exact Or.inr rfl) (pd_new (pl_sorted rfl T.n_sorted (pm_l (pl_lcv rfl sc_are_apart.nd (pf_d (pd_var 0)) (blkOk_by (N := ["rooms", "here", "room", "one", "other"]) (sc := defScope s_are_apart) (own := [("room", 2)]) (by decide +kernel)) rfl (by decide) (fun _ _ _ _ _ => (pt_name sc_are_apart.nd rfl (by first | exact Or.inl rfl | exact Or.inr rfl))) (fun _ _ _ _ _ => (ptsd_one (pb_val (pd_call H_is_here hr rfl T.is_here.g T.is_here.k T.is_here.b takes0 (pas_cons (pd_var 2) pas_nil) (many_cons many_nil))))) (fun _ _ _ _ _ => (pd_tup (pas_cons (pd_ix (pd_var 2) pd_int) (pas_cons (pd_call H_end_of hr rfl T.end_of.g T.end_of.k T.end_of.b takes0 (pas_cons (pd_var 2) pas_nil) (many_cons many_nil)) pas_nil)))))))))
    (pzs_one (pz_ret (pg_callSB (cs_all rfl) rfl T.n_all (by decide +kernel) (pm_l (pl_lcv rfl sc_are_apart.nd (pf_zipS rfl T.n_zip (pd_new (pl_cut (pd_var 1) pp_none (pp_some (pd_neg pd_int)))) (pd_new (pl_cut (pd_var 1) (pp_some pd_int) pp_none)) (pks_cons pd_bl pks_nil)) (blkOk_by (N := ["rooms", "here", "room", "one", "other"]) (sc := defScope s_are_apart) (own := [("one", 3), ("other", 4)]) (by decide +kernel)) rfl (by decide) (fun _ _ _ _ _ => (pt_tup rfl (ptn_cons (pt_name sc_are_apart.nd rfl (by first | exact Or.inl rfl | exact Or.inr rfl)) (ptn_cons (pt_name sc_are_apart.nd rfl (by first | exact Or.inl rfl | exact Or.inr rfl)) ptn_nil)))) (fun _ _ _ _ _ => ptsd_nil) (fun _ _ _ _ _ => (pd_cmp od_le (pd_ix (pd_var 3) pd_int) (pd_ix (pd_var 4) pd_int)))))))))
theorem sc_is_of_rooms : FnScope ["rooms", "value", "whence", "place"] ["rooms", "value"] (defScope s_is_of_rooms) := ⟨rfl, rfl, rfl, by decide +kernel, rfl, by decide +kernel, by decide +kernel⟩
def b_is_of_rooms : SM := (sSeq (sIf (bNot (e1 (e1 (aCons (eVar 1) (aCons (eC (.cst (.ty "tuple"))) aNil)) oIsi) truth)) (sRet (eC (.bl true))) sSkip) (sSeq (sAsg (eVar 1) (gTupD 2 (gConsD (gSet 2) (gConsD (gSet 3) gNilD)))) (sSeq (sIf (e2 (eVar 2) (e1 (eC (.int 1)) oNeg) cEq) (sRet (eC (.bl true))) sSkip) (sRet (eAnd (eB (e2 (eVar 2) (e1 (aCons (eVar 0) aNil) oLenA) cLt)) (eB (bChain (e2 (e2 (eVar 0) (eVar 2) oIx) (eC (.int 0)) oIx) (eVar 3) (e1 (aCons (e2 (eVar 0) (eVar 2) oIx) aNil) m_end_of) cLe cLe)))))))
def m_is_of_rooms : List D → AH → Res D := fnR 4 2 b_is_of_rooms
theorem ok_is_of_rooms (T : Txt K mg) : FnG P w K mg base 2 T.is_of_rooms.a T.is_of_rooms.fd ["rooms", "value"] m_is_of_rooms := by
  have H_end_of : FnG P w K mg base 1 T.end_of.a T.end_of.fd ["room"] (m_end_of) := (ok_end_of T).mono (by omega)
  refine fnG_R T.is_of_rooms.F sc_is_of_rooms (fun cdv A lo s H E hr => ?_)
  exact (pzs_cons (pz_if (pb_not (pb_val (pd_callB cd_isi rfl T.n_isinstance (by decide +kernel) (pas_cons (pd_var 1) (pas_cons (pd_ty rfl T.n_tuple (by decide +kernel)) pas_nil))))) (pzs_one (pz_ret pd_bl)) pzs_nil)
    (pzs_cons (pz_asg (pd_var 1) (pt_tup rfl (ptn_cons (pt_name sc_is_of_rooms.nd rfl (by first | exact Or.inl rfl | exact Or.inr rfl)) (ptn_cons (pt_name sc_is_of_rooms.nd rfl (by first | exact Or.inl rfl | exact Or.inr rfl)) ptn_nil))))
    (pzs_cons (pz_if (pb_cmp (od_eq hr) (pd_var 2) (pd_neg pd_int)) (pzs_one (pz_ret pd_bl)) pzs_nil)
    (pzs_one (pz_ret (pd_and (pd_cmp od_lt (pd_var 2) (pd_callB cd_len rfl T.n_len (by decide +kernel) (pas_cons (pd_var 0) pas_nil))) (pd_one (pd_chain od_le od_le (pd_ix (pd_ix (pd_var 0) (pd_var 2)) pd_int) (pd_var 3) (pd_call H_end_of hr rfl T.end_of.g T.end_of.k T.end_of.b (takes_of rfl rfl rfl rfl) (pas_cons (pd_ix (pd_var 0) (pd_var 2)) pas_nil) (many_cons many_nil))))))))))
theorem sc_is_state : FnScope ["thing", "values", "span", "rooms", "registers", "told", "room", "value", "one"] ["thing"] (defScope s_is_state) := ⟨rfl, rfl, rfl, by decide +kernel, rfl, by decide +kernel, by decide +kernel⟩
def b_is_state : SM := (sSeq (sIf (bOr (bNot (e1 (e1 (aCons (eVar 0) (aCons (eC (.cst (.ty "tuple"))) aNil)) oIsi) truth)) (e2 (e1 (aCons (eVar 0) aNil) oLenA) (eC c_PARTS) cNe)) (sRet (eC (.bl false))) sSkip) (sSeq (sAsg (eVar 0) (gTupD 4 (gConsD (gSet 2) (gConsD (gSet 3) (gConsD (gSet 4) (gConsD (gSet 5) gNilD)))))) (sSeq (sIf (bOr (bNot (e1 (e1 (aCons (eVar 2) (aCons (eC c_LEAST_SPAN) (aCons (eC c_MOST_SPAN) aNil))) m_is_within) truth)) (bOr (bNot (e1 (e1 (aCons (eVar 3) (aCons (eC (.cst (.ty "tuple"))) aNil)) oIsi) truth)) (bNot (e1 (e1 (aCons (eVar 5) (aCons (eC (.cst (.ty "tuple"))) aNil)) oIsi) truth)))) (sRet (eC (.bl false))) sSkip) (sSeq (sIf (bOr (bNot (e1 (e1 (lLc (e1 (eVar 3) iVal) (gSet 6) bYes (e1 (aCons (eVar 6) (aCons (eVar 2) aNil)) m_is_room) [6]) sAll) truth)) (bNot (e1 (e1 (aCons (eVar 3) aNil) m_are_apart) truth))) (sRet (eC (.bl false))) sSkip) (sSeq (sIf (bOr (bNot (e1 (e1 (aCons (eVar 4) (aCons (e1 (aCons (eC c_REGISTERS) aNil) oLenA) aNil)) m_are_held) truth)) (bNot (e1 (e1 (lLc (e1 (eVar 5) iVal) (gSet 8) bYes (e1 (aCons (eVar 8) aNil) m_is_number) [8]) sAll) truth))) (sRet (eC (.bl false))) sSkip) (sSeq (sAsg (eNew (e2 (tOur (eLc2 (e1 (eVar 3) iVal) (gSet 6) bYes (e1 (e2 (eVar 6) (eC (.int 3)) oIx) iVal) (gSet 7) bYes (eVar 7) [6, 7] [7])) (tNew (e1 (e1 (eVar 4) seqOf) sList)) lCat)) (gSet 1)) (sRet (e1 (lLc (e1 (eVar 1) iVal) (gSet 7) bYes (e1 (aCons (eVar 3) (aCons (eVar 7) aNil)) m_is_of_rooms) [7]) sAll))))))))
def m_is_state : List D → AH → Res D := fnR 9 1 b_is_state
theorem ok_is_state (T : Txt K mg) : FnG P w K mg base 8 T.is_state.a T.is_state.fd ["thing"] m_is_state := by
  have H_is_within : FnG P w K mg base 7 T.is_within.a T.is_within.fd ["thing", "least", "most"] (m_is_within) := (ok_is_within T).mono (by omega)
  have H_is_room : FnG P w K mg base 7 T.is_room.a T.is_room.fd ["thing", "span"] (m_is_room) := (ok_is_room T).mono (by omega)
  have H_are_apart : FnG P w K mg base 7 T.are_apart.a T.are_apart.fd ["rooms"] (m_are_apart) := (ok_are_apart T).mono (by omega)
  have H_are_held : FnG P w K mg base 7 T.are_held.a T.are_held.fd ["thing", "many"] (m_are_held) := (ok_are_held T).mono (by omega)
  have H_is_number : FnG P w K mg base 7 T.is_number.a T.is_number.fd ["thing"] (m_is_number) := (ok_is_number T).mono (by omega)
  have H_is_of_rooms : FnG P w K mg base 7 T.is_of_rooms.a T.is_of_rooms.fd ["rooms", "value"] (m_is_of_rooms) := (ok_is_of_rooms T).mono (by omega)
  refine fnG_R T.is_state.F sc_is_state (fun cdv A lo s H E hr => ?_)
  exact (pzs_cons (pz_if (pbw (pbw_or (pb_not (pb_val (pd_callB cd_isi rfl T.n_isinstance (by decide +kernel) (pas_cons (pd_var 0) (pas_cons (pd_ty rfl T.n_tuple (by decide +kernel)) pas_nil))))) (pbw_or1 (pb_cmp (od_ne hr) (pd_callB cd_len rfl T.n_len (by decide +kernel) (pas_cons (pd_var 0) pas_nil)) (pd_const rfl T.c_PARTS))))) (pzs_one (pz_ret pd_bl)) pzs_nil)
    (pzs_cons (pz_asg (pd_var 0) (pt_tup rfl (ptn_cons (pt_name sc_is_state.nd rfl (by first | exact Or.inl rfl | exact Or.inr rfl)) (ptn_cons (pt_name sc_is_state.nd rfl (by first | exact Or.inl rfl | exact Or.inr rfl)) (ptn_cons (pt_name sc_is_state.nd rfl (by first | exact Or.inl rfl | exact Or.inr rfl)) (ptn_cons (pt_name sc_is_state.nd rfl (by first | exact Or.inl rfl | exact Or.inr rfl)) ptn_nil))))))
    (pzs_cons (pz_if (pbw (pbw_or (pb_not (pb_val (pd_call H_is_within hr rfl T.is_within.g T.is_within.k T.is_within.b (takes_of rfl rfl rfl rfl) (pas_cons (pd_var 2) (pas_cons (pd_const rfl T.c_LEAST_SPAN) (pas_cons (pd_const rfl T.c_MOST_SPAN) pas_nil))) (many_cons (many_cons (many_cons many_nil)))))) (pbw_or (pb_not (pb_val (pd_callB cd_isi rfl T.n_isinstance (by decide +kernel) (pas_cons (pd_var 3) (pas_cons (pd_ty rfl T.n_tuple (by decide +kernel)) pas_nil))))) (pbw_or1 (pb_not (pb_val (pd_callB cd_isi rfl T.n_isinstance (by decide +kernel) (pas_cons (pd_var 5) (pas_cons (pd_ty rfl T.n_tuple (by decide +kernel)) pas_nil))))))))) (pzs_one (pz_ret pd_bl)) pzs_nil)
    (pzs_cons (pz_if (pbw (pbw_or (pb_not (pb_val (pg_callSB (cs_all rfl) rfl T.n_all (by decide +kernel) (pm_l (pl_lcv rfl sc_is_state.nd (pf_d (pd_var 3)) (blkOk_by (N := ["thing", "values", "span", "rooms", "registers", "told", "room", "value", "one"]) (sc := defScope s_is_state) (own := [("room", 6)]) (by decide +kernel)) rfl (by decide) (fun _ _ _ _ _ => (pt_name sc_is_state.nd rfl (by first | exact Or.inl rfl | exact Or.inr rfl))) (fun _ _ _ _ _ => ptsd_nil) (fun _ _ _ _ _ => (pd_call H_is_room hr rfl T.is_room.g T.is_room.k T.is_room.b takes0 (pas_cons (pd_var 6) (pas_cons (pd_var 2) pas_nil)) (many_cons (many_cons many_nil))))))))) (pbw_or1 (pb_not (pb_val (pd_call H_are_apart hr rfl T.are_apart.g T.are_apart.k T.are_apart.b (takes_of rfl rfl rfl rfl) (pas_cons (pd_var 3) pas_nil) (many_cons many_nil))))))) (pzs_one (pz_ret pd_bl)) pzs_nil)
    (pzs_cons (pz_if (pbw (pbw_or (pb_not (pb_val (pd_call H_are_held hr rfl T.are_held.g T.are_held.k T.are_held.b (takes_of rfl rfl rfl rfl) (pas_cons (pd_var 4) (pas_cons (pd_callB cd_len rfl T.n_len (by decide +kernel) (pas_cons (pd_const rfl T.c_REGISTERS) pas_nil)) pas_nil)) (many_cons (many_cons many_nil))))) (pbw_or1 (pb_not (pb_val (pg_callSB (cs_all rfl) rfl T.n_all (by decide +kernel) (pm_l (pl_lcv rfl sc_is_state.nd (pf_d (pd_var 5)) (blkOk_by (N := ["thing", "values", "span", "rooms", "registers", "told", "room", "value", "one"]) (sc := defScope s_is_state) (own := [("one", 8)]) (by decide +kernel)) rfl (by decide) (fun _ _ _ _ _ => (pt_name sc_is_state.nd rfl (by first | exact Or.inl rfl | exact Or.inr rfl))) (fun _ _ _ _ _ => ptsd_nil) (fun _ _ _ _ _ => (pd_call H_is_number hr rfl T.is_number.g T.is_number.k T.is_number.b takes0 (pas_cons (pd_var 8) pas_nil) (many_cons many_nil))))))))))) (pzs_one (pz_ret pd_bl)) pzs_nil)
    (pzs_cons (pz_set sc_is_state.nd rfl (by first | exact Or.inl rfl | exact Or.inr rfl) (pd_new (pl_cat (plt_d (pd_lc2 rfl sc_is_state.nd (pf_d (pd_var 3)) (blkOk_by (N := ["thing", "values", "span", "rooms", "registers", "told", "room", "value", "one"]) (sc := defScope s_is_state) (own := [("room", 6), ("value", 7)]) (by decide +kernel)) rfl (by decide) (by decide) (by decide) (fun _ _ _ _ _ => (pt_name sc_is_state.nd rfl (by first | exact Or.inl rfl | exact Or.inr rfl))) (fun _ _ _ _ _ => ptsd_nil) (fun _ _ _ _ _ => (pf_d (pd_ix (pd_var 6) pd_int))) (fun _ _ _ _ _ => (pt_name sc_is_state.nd rfl (by first | exact Or.inl rfl | exact Or.inr rfl))) (fun _ _ _ _ _ => ptsd_nil) (fun _ _ _ _ _ => (pd_var 7)))) (plt_l (pg_callST cs_list rfl T.n_list (by decide +kernel) (pq_d (pd_var 4)))))))
    (pzs_one (pz_ret (pg_callSB (cs_all rfl) rfl T.n_all (by decide +kernel) (pm_l (pl_lcv rfl sc_is_state.nd (pf_d (pd_var 1)) (blkOk_by (N := ["thing", "values", "span", "rooms", "registers", "told", "room", "value", "one"]) (sc := defScope s_is_state) (own := [("value", 7)]) (by decide +kernel)) rfl (by decide) (fun _ _ _ _ _ => (pt_name sc_is_state.nd rfl (by first | exact Or.inl rfl | exact Or.inr rfl))) (fun _ _ _ _ _ => ptsd_nil) (fun _ _ _ _ _ => (pd_call H_is_of_rooms hr rfl T.is_of_rooms.g T.is_of_rooms.k T.is_of_rooms.b takes0 (pas_cons (pd_var 3) (pas_cons (pd_var 7) pas_nil)) (many_cons (many_cons many_nil)))))))))))))))
theorem sc_right_bases : FnScope ["state", "size", "here", "found", "base", "span", "rooms", "others", "room"] ["state", "size"] (defScope s_right_bases) := ⟨rfl, rfl, rfl, by decide +kernel, rfl, by decide +kernel, by decide +kernel⟩
def b_right_bases : SM := (sSeq (sAsgX (eVar 0) (gStarD 2 (gConsD (gSet 5) (gConsD (gSet 6) (gConsD (gSet 7) gNilD))))) (sSeq (sAsg (eNew (lLc (e1 (eVar 6) iVal) (gSet 8) (e1 (e1 (aCons (eVar 8) aNil) m_is_here) truth) (eVar 8) [8])) (gSet 2)) (sSeq (sAsg (eNew (lLst aNil)) (gSet 3)) (sSeq (sFor (e2 (eC (.int 1)) (e2 (e2 (eVar 5) (eVar 1) oSub) (eC (.int 1)) oAdd) iRange2) (gSet 4) (sIf (e1 (e1 (lLc (e1 (eVar 2) iVal) (gSet 8) bYes (eOr (eB (e2 (e1 (aCons (eVar 8) aNil) m_end_of) (eVar 4) cLe)) (eB (e2 (e2 (eVar 4) (eVar 1) oAdd) (e2 (eVar 8) (eC (.int 0)) oIx) cLe))) [8]) sAll) truth) (sExpr (eMt (eVar 3) (aCons (eVar 4) aNil) mAppend)) sSkip)) (sRet (e1 (e1 (eVar 3) seqOf) sTup))))))
def m_right_bases : List D → AH → Res D := fnR 9 2 b_right_bases
theorem ok_right_bases (T : Txt K mg) : FnG P w K mg base 2 T.right_bases.a T.right_bases.fd ["state", "size"] m_right_bases := by
  have H_is_here : FnG P w K mg base 1 T.is_here.a T.is_here.fd ["room"] (m_is_here) := (ok_is_here T).mono (by omega)
  have H_end_of : FnG P w K mg base 1 T.end_of.a T.end_of.fd ["room"] (m_end_of) := (ok_end_of T).mono (by omega)
  refine fnG_R T.right_bases.F sc_right_bases (fun cdv A lo s H E hr => ?_)
  exact (pzs_cons (pz_asgX (pd_var 0) (pt_star rfl (ptn_cons (pt_name sc_right_bases.nd rfl (by first | exact Or.inl rfl | exact Or.inr rfl)) (ptn_cons (pt_name sc_right_bases.nd rfl (by first | exact Or.inl rfl | exact Or.inr rfl)) (ptn_cons (pt_name sc_right_bases.nd rfl (by first | exact Or.inl rfl | exact Or.inr rfl)) ptn_nil)))))
    (pzs_cons (pz_setLcv rfl sc_right_bases.nd rfl rfl (sw_true rfl rfl rfl (by decide +kernel)) (pf_d (pd_var 6)) (blkOk_by (N := ["state", "size", "here", "found", "base", "span", "rooms", "others", "room"]) (sc := defScope s_right_bases) (own := [("room", 8)]) (by decide +kernel)) rfl (by decide) (fun _ _ _ _ _ => (pt_name sc_right_bases.nd rfl (by first | exact Or.inl rfl | exact Or.inr rfl))) (fun _ _ _ _ _ => (ptsd_one (pb_val (pd_call H_is_here hr rfl T.is_here.g T.is_here.k T.is_here.b takes0 (pas_cons (pd_var 8) pas_nil) (many_cons many_nil))))) (fun _ _ _ _ _ => (pd_var 8)))
    (pzs_cons (pz_set sc_right_bases.nd rfl (by first | exact Or.inl rfl | exact Or.inr rfl) (pd_new (pl_lst pas_nil)))
    (pzs_cons (pz_for (passes_of rfl) rfl (pf_range2 rfl T.n_range pd_int (pd_op od_add (pd_op od_sub (pd_var 5) (pd_var 1)) pd_int)) (pt_name sc_right_bases.nd rfl (by first | exact Or.inl rfl | exact Or.inr rfl)) (pzs_one (pz_if (pb_val (pg_callSB (cs_all rfl) rfl T.n_all (by decide +kernel) (pm_l (pl_lcv rfl sc_right_bases.nd (pf_d (pd_var 2)) (blkOk_by (N := ["state", "size", "here", "found", "base", "span", "rooms", "others", "room"]) (sc := defScope s_right_bases) (own := [("room", 8)]) (by decide +kernel)) rfl (by decide) (fun _ _ _ _ _ => (pt_name sc_right_bases.nd rfl (by first | exact Or.inl rfl | exact Or.inr rfl))) (fun _ _ _ _ _ => ptsd_nil) (fun _ _ _ _ _ => (pd_or (pd_cmp od_le (pd_call H_end_of hr rfl T.end_of.g T.end_of.k T.end_of.b takes0 (pas_cons (pd_var 8) pas_nil) (many_cons many_nil)) (pd_var 4)) (pd_one (pd_cmp od_le (pd_op od_add (pd_var 4) (pd_var 1)) (pd_ix (pd_var 8) pd_int))))))))) (pzs_one (pz_expr (pd_ml PySem.F.plainAttrs_list PySem.F.slot_list_append PySem.F.type_list_append md_append (pd_var 3) (pas_cons (pd_var 4) pas_nil)))) pzs_nil)))
    (pzs_one (pz_ret (pg_callST cs_tuple rfl T.n_tuple (by decide +kernel) (pq_d (pd_var 3)))))))))
theorem sc__law_deck : FnScope ["_law_script", "_law_cells", "_law_cell"] ["_law_script"] (defScope s__law_deck) := ⟨rfl, rfl, rfl, by decide +kernel, rfl, by decide +kernel, by decide +kernel⟩
def b__law_deck : SM := (sSeq (sAsg (eNew (e1 (e3 (eVar 0) (oPart none) (oPart (some (eC (.int 63)))) fun d lo hi ah => (HA.listOf d ah).bind fun ds ah => lCut ds lo hi ah) lRevL)) (gSet 1)) (sRet (eNew (lLst (aCons (eVar 1) (aCons (e2 (e1 (lLc (e1 (eVar 1) iVal) (gSet 2) bYes (e2 (eVar 2) (eC (.int 2147483629)) oMod) [2]) sSum) (e2 (eC (.int 11)) (e1 (aCons (eVar 1) aNil) oLenA) oMul) oAdd) (aCons (eC (.int 0)) aNil)))))))
def m__law_deck : List D → AH → Res D := fnM 3 1 b__law_deck
theorem ok__law_deck (T : Txt K mg) : FnG P w K mg base 1 T._law_deck.a T._law_deck.fd ["_law_script"] m__law_deck := by
  refine fnG T._law_deck.F sc__law_deck (fun cdv A lo s H E hr => ?_)
  exact (pzs_cons (pz_set sc__law_deck.nd rfl (by first | exact Or.inl rfl | exact Or.inr rfl) (pd_new (pl_listRev rfl rfl T.n_list rfl T.n_reversed (pm_l (pl_cut (pd_var 0) pp_none (pp_some pd_int))))))
    (pzs_one (pz_ret (pd_new (pl_lst (pas_cons (pd_var 1) (pas_cons (pd_op od_add (pg_callSB (cs_sum rfl) rfl T.n_sum (by decide +kernel) (pm_l (pl_lcv rfl sc__law_deck.nd (pf_d (pd_var 1)) (blkOk_by (N := ["_law_script", "_law_cells", "_law_cell"]) (sc := defScope s__law_deck) (own := [("_law_cell", 2)]) (by decide +kernel)) rfl (by decide) (fun _ _ _ _ _ => (pt_name sc__law_deck.nd rfl (by first | exact Or.inl rfl | exact Or.inr rfl))) (fun _ _ _ _ _ => ptsd_nil) (fun _ _ _ _ _ => (pd_op od_mod (pd_var 2) pd_int))))) (pd_op od_mul pd_int (pd_callB cd_len rfl T.n_len (by decide +kernel) (pas_cons (pd_var 1) pas_nil)))) (pas_cons pd_int pas_nil))))))))
theorem sc__law_draw : FnScope ["_law_deck_here", "_law_most", "_law_cell", "_law_number_here"] ["_law_deck_here", "_law_most"] (defScope s__law_draw) := ⟨rfl, rfl, rfl, by decide +kernel, rfl, by decide +kernel, by decide +kernel⟩
def b__law_draw : SM := (sSeq (sSetL (eVar 0) (eC (.int 2)) (e2 (e2 (eVar 0) (eC (.int 2)) oIx) (eC (.int 1)) oAdd)) (sSeq (sAsg (e2 (eVar 0) (eC (.int 1)) oIx) (gSet 2)) (sSeq (sIf (bNil true (e1 (e2 (eVar 0) (eC (.int 0)) oIx) HA.listOf)) (sSeq (sAsg (eMt (e2 (eVar 0) (eC (.int 0)) oIx) aNil mPop) (gSet 2)) (sIf (e2 (eVar 2) (e2 (eC (.int 10)) (eC (.int 18)) oPow) cGe) (sSeq (sExpr (eMt (e2 (eVar 0) (eC (.int 0)) oIx) (aCons (e2 (eVar 2) (eVar 1) oFdiv) aNil) mAppend)) (sRet (e2 (eVar 2) (eVar 1) oMod))) sSkip)) sSkip) (sSeq (sAsg (e2 (e2 (e2 (e2 (e2 (eVar 2) (eC (.int 2147483629)) oMod) (e2 (e2 (eC (.int 7919)) (e2 (eVar 0) (eC (.int 2)) oIx) oMul) (e2 (eVar 0) (eC (.int 2)) oIx) oMul) oAdd) (eC (.int 1)) oAdd) (eC (.int 48271)) oMul) (eC (.int 2147483647)) oMod) (gSet 3)) (sSeq (sAsg (e2 (e2 (e2 (e2 (eVar 3) (eVar 3) oMul) (e2 (eC (.int 69621)) (eVar 3) oMul) oAdd) (e2 (eVar 0) (eC (.int 2)) oIx) oAdd) (eC (.int 2147483587)) oMod) (gSet 3)) (sRet (e2 (e2 (e2 (e2 (eVar 3) (e2 (e2 (eVar 3) (eC (.int 5)) oFdiv) (eC (.int 39373)) oAdd) oMul) (eC (.int 2147483579)) oMod) (eC (.int 64)) oFdiv) (eVar 1) oMod)))))))
def m__law_draw : List D → AH → Res D := fnM 4 2 b__law_draw
theorem ok__law_draw (T : Txt K mg) : FnG P w K mg base 1 T._law_draw.a T._law_draw.fd ["_law_deck_here", "_law_most"] m__law_draw := by
  refine fnG T._law_draw.F sc__law_draw (fun cdv A lo s H E hr => ?_)
  exact (pzs_cons (pz_setL (pd_var 0) pd_int (pd_op od_add (pd_ix (pd_var 0) pd_int) pd_int))
    (pzs_cons (pz_set sc__law_draw.nd rfl (by first | exact Or.inl rfl | exact Or.inr rfl) (pd_ix (pd_var 0) pd_int))
    (pzs_cons (pz_if (pb_notNil hr (pm_d (pd_ix (pd_var 0) pd_int))) (pzs_cons (pz_set sc__law_draw.nd rfl (by first | exact Or.inl rfl | exact Or.inr rfl) (pd_ml0 PySem.F.plainAttrs_list PySem.F.slot_list_pop PySem.F.type_list_pop md_pop (pd_ix (pd_var 0) pd_int)))
    (pzs_one (pz_if (pb_cmp od_ge (pd_var 2) (pd_op od_pow pd_int pd_int)) (pzs_cons (pz_expr (pd_ml PySem.F.plainAttrs_list PySem.F.slot_list_append PySem.F.type_list_append md_append (pd_ix (pd_var 0) pd_int) (pas_cons (pd_op od_fdiv (pd_var 2) (pd_var 1)) pas_nil)))
    (pzs_one (pz_ret (pd_op od_mod (pd_var 2) (pd_var 1))))) pzs_nil))) pzs_nil)
    (pzs_cons (pz_set sc__law_draw.nd rfl (by first | exact Or.inl rfl | exact Or.inr rfl) (pd_op od_mod (pd_op od_mul (pd_op od_add (pd_op od_add (pd_op od_mod (pd_var 2) pd_int) (pd_op od_mul (pd_op od_mul pd_int (pd_ix (pd_var 0) pd_int)) (pd_ix (pd_var 0) pd_int))) pd_int) pd_int) pd_int))
    (pzs_cons (pz_set sc__law_draw.nd rfl (by first | exact Or.inl rfl | exact Or.inr rfl) (pd_op od_mod (pd_op od_add (pd_op od_add (pd_op od_mul (pd_var 3) (pd_var 3)) (pd_op od_mul pd_int (pd_var 3))) (pd_ix (pd_var 0) pd_int)) pd_int))
    (pzs_one (pz_ret (pd_op od_mod (pd_op od_fdiv (pd_op od_mod (pd_op od_mul (pd_var 3) (pd_op od_add (pd_op od_fdiv (pd_var 3) pd_int) pd_int)) pd_int) pd_int) (pd_var 1)))))))))
theorem sc__law_pick : FnScope ["_law_deck_here", "_law_some"] ["_law_deck_here", "_law_some"] (defScope s__law_pick) := ⟨rfl, rfl, rfl, by decide +kernel, rfl, by decide +kernel, by decide +kernel⟩
def b__law_pick : SM := (sRet (e2 (eVar 1) (e1 (aCons (eVar 0) (aCons (e1 (aCons (eVar 1) aNil) oLenA) aNil)) m__law_draw) oIx))
def m__law_pick : List D → AH → Res D := fnR 2 2 b__law_pick
theorem ok__law_pick (T : Txt K mg) : FnG P w K mg base 2 T._law_pick.a T._law_pick.fd ["_law_deck_here", "_law_some"] m__law_pick := by
  have H__law_draw : FnG P w K mg base 1 T._law_draw.a T._law_draw.fd ["_law_deck_here", "_law_most"] (m__law_draw) := (ok__law_draw T).mono (by omega)
  refine fnG_R T._law_pick.F sc__law_pick (fun cdv A lo s H E hr => ?_)
  exact (pzs_one (pz_ret (pd_ix (pd_var 1) (pd_call H__law_draw hr rfl T._law_draw.g T._law_draw.k T._law_draw.b (takes_of rfl rfl rfl rfl) (pas_cons (pd_var 0) (pas_cons (pd_callB cd_len rfl T.n_len (by decide +kernel) (pas_cons (pd_var 1) pas_nil)) pas_nil)) (many_cons (many_cons many_nil))))))
theorem sc__law_number : FnScope ["_law_deck_here"] ["_law_deck_here"] (defScope s__law_number) := ⟨rfl, rfl, rfl, by decide +kernel, rfl, by decide +kernel, by decide +kernel⟩
def b__law_number : SM := (sRet (e2 (lLst (aCons (eC (.int 0)) (aCons (eC (.int 1)) (aCons (e1 (aCons (eVar 0) (aCons (eC (.int 9)) aNil)) m__law_draw) (aCons (e2 (eC (.int 999)) (e1 (aCons (eVar 0) (aCons (eC (.int 2)) aNil)) m__law_draw) oSub) (aCons (e1 (aCons (eVar 0) (aCons (eC (.int 1000)) aNil)) m__law_draw) aNil)))))) (e1 (aCons (eVar 0) (aCons (eC (.int 5)) aNil)) m__law_draw) lIx))
def m__law_number : List D → AH → Res D := fnR 1 1 b__law_number
theorem ok__law_number (T : Txt K mg) : FnG P w K mg base 2 T._law_number.a T._law_number.fd ["_law_deck_here"] m__law_number := by
  have H__law_draw : FnG P w K mg base 1 T._law_draw.a T._law_draw.fd ["_law_deck_here", "_law_most"] (m__law_draw) := (ok__law_draw T).mono (by omega)
  refine fnG_R T._law_number.F sc__law_number (fun cdv A lo s H E hr => ?_)
  exact (pzs_one (pz_ret (pd_ixL (pl_lst (pas_cons pd_int (pas_cons pd_int (pas_cons (pd_call H__law_draw hr rfl T._law_draw.g T._law_draw.k T._law_draw.b (takes_of rfl rfl rfl rfl) (pas_cons (pd_var 0) (pas_cons pd_int pas_nil)) (many_cons (many_cons many_nil))) (pas_cons (pd_op od_sub pd_int (pd_call H__law_draw hr rfl T._law_draw.g T._law_draw.k T._law_draw.b (takes_of rfl rfl rfl rfl) (pas_cons (pd_var 0) (pas_cons pd_int pas_nil)) (many_cons (many_cons many_nil)))) (pas_cons (pd_call H__law_draw hr rfl T._law_draw.g T._law_draw.k T._law_draw.b (takes_of rfl rfl rfl rfl) (pas_cons (pd_var 0) (pas_cons pd_int pas_nil)) (many_cons (many_cons many_nil))) pas_nil)))))) (pd_call H__law_draw hr rfl T._law_draw.g T._law_draw.k T._law_draw.b (takes_of rfl rfl rfl rfl) (pas_cons (pd_var 0) (pas_cons pd_int pas_nil)) (many_cons (many_cons many_nil))))))
theorem sc__law_any_value : FnScope ["_law_deck_here", "_law_rooms", "_law_way", "_law_at"] ["_law_deck_here", "_law_rooms"] (defScope s__law_any_value) := ⟨rfl, rfl, rfl, by decide +kernel, rfl, by decide +kernel, by decide +kernel⟩
def b__law_any_value : SM := (sSeq (sAsg (e1 (aCons (eVar 0) (aCons (eC (.int 4)) aNil)) m__law_draw) (gSet 2)) (sSeq (sIf (bOr (e2 (eVar 2) (eC (.int 0)) cEq) (bNil false (e1 (eVar 1) HA.listOf))) (sRet (e1 (aCons (eVar 0) aNil) m__law_number)) sSkip) (sSeq (sIf (bAnd (e2 (eVar 2) (eC (.int 1)) cEq) (e2 (e1 (aCons (eVar 0) (aCons (eC (.int 3)) aNil)) m__law_draw) (eC (.int 0)) cEq)) (sRet (eTup (aCons (e1 (eC (.int 1)) oNeg) (aCons (e1 (aCons (eVar 0) aNil) m__law_number) aNil)))) sSkip) (sSeq (sAsg (e1 (aCons (eVar 0) (aCons (e1 (aCons (eVar 1) aNil) oLenA) aNil)) m__law_draw) (gSet 3)) (sRet (eTup (aCons (eVar 3) (aCons (e2 (e2 (e2 (eVar 1) (eVar 3) oIx) (eC (.int 0)) oIx) (e1 (aCons (eVar 0) (aCons (e2 (e2 (e2 (eVar 1) (eVar 3) oIx) (eC (.int 1)) oIx) (eC (.int 1)) oAdd) aNil)) m__law_draw) oAdd) aNil))))))))
def m__law_any_value : List D → AH → Res D := fnR 4 2 b__law_any_value
theorem ok__law_any_value (T : Txt K mg) : FnG P w K mg base 3 T._law_any_value.a T._law_any_value.fd ["_law_deck_here", "_law_rooms"] m__law_any_value := by
  have H__law_draw : FnG P w K mg base 2 T._law_draw.a T._law_draw.fd ["_law_deck_here", "_law_most"] (m__law_draw) := (ok__law_draw T).mono (by omega)
  have H__law_number : FnG P w K mg base 2 T._law_number.a T._law_number.fd ["_law_deck_here"] (m__law_number) := (ok__law_number T).mono (by omega)
  refine fnG_R T._law_any_value.F sc__law_any_value (fun cdv A lo s H E hr => ?_)
  exact (pzs_cons (pz_set sc__law_any_value.nd rfl (by first | exact Or.inl rfl | exact Or.inr rfl) (pd_call H__law_draw hr rfl T._law_draw.g T._law_draw.k T._law_draw.b (takes_of rfl rfl rfl rfl) (pas_cons (pd_var 0) (pas_cons pd_int pas_nil)) (many_cons (many_cons many_nil))))
    (pzs_cons (pz_if (pbw (pbw_or (pb_cmp (od_eq hr) (pd_var 2) pd_int) (pbw_or1 (pb_nil hr (pm_d (pd_var 1)))))) (pzs_one (pz_ret (pd_call H__law_number hr rfl T._law_number.g T._law_number.k T._law_number.b (takes_of rfl rfl rfl rfl) (pas_cons (pd_var 0) pas_nil) (many_cons many_nil)))) pzs_nil)
    (pzs_cons (pz_if (pbw (pbw_and (pb_cmp (od_eq hr) (pd_var 2) pd_int) (pbw_and1 (pb_cmp (od_eq hr) (pd_call H__law_draw hr rfl T._law_draw.g T._law_draw.k T._law_draw.b (takes_of rfl rfl rfl rfl) (pas_cons (pd_var 0) (pas_cons pd_int pas_nil)) (many_cons (many_cons many_nil))) pd_int)))) (pzs_one (pz_ret (pd_tup (pas_cons (pd_neg pd_int) (pas_cons (pd_call H__law_number hr rfl T._law_number.g T._law_number.k T._law_number.b (takes_of rfl rfl rfl rfl) (pas_cons (pd_var 0) pas_nil) (many_cons many_nil)) pas_nil))))) pzs_nil)
    (pzs_cons (pz_set sc__law_any_value.nd rfl (by first | exact Or.inl rfl | exact Or.inr rfl) (pd_call H__law_draw hr rfl T._law_draw.g T._law_draw.k T._law_draw.b (takes_of rfl rfl rfl rfl) (pas_cons (pd_var 0) (pas_cons (pd_callB cd_len rfl T.n_len (by decide +kernel) (pas_cons (pd_var 1) pas_nil)) pas_nil)) (many_cons (many_cons many_nil))))
    (pzs_one (pz_ret (pd_tup (pas_cons (pd_var 3) (pas_cons (pd_op od_add (pd_ix (pd_ix (pd_var 1) (pd_var 3)) pd_int) (pd_call H__law_draw hr rfl T._law_draw.g T._law_draw.k T._law_draw.b (takes_of rfl rfl rfl rfl) (pas_cons (pd_var 0) (pas_cons (pd_op od_add (pd_ix (pd_ix (pd_var 1) (pd_var 3)) pd_int) pd_int) pas_nil)) (many_cons (many_cons many_nil)))) pas_nil)))))))))
theorem sc__law_state : FnScope ["_law_deck_here", "_law_most", "_law_rooms", "_law_at", "_law_k", "_law_told", "_law_whole", "_law_registers", "_law_size", "_law_mode", "_law_base", "_law_cells"] ["_law_deck_here", "_law_most"] (defScope s__law_state) := ⟨rfl, rfl, rfl, by decide +kernel, rfl, by decide +kernel, by decide +kernel⟩
def b__law_state : SM := (sSeq (sAsg (eNew (lLst aNil)) (gSet 2)) (sSeq (sAsg (eC (.int 1)) (gSet 3)) (sSeq (sFor (e1 (e1 (aCons (eVar 0) (aCons (e2 (eVar 1) (eC (.int 1)) oAdd) aNil)) m__law_draw) iRange1) (gSet 4) (sSeq (sAsg (e2 (eC (.int 1)) (e1 (aCons (eVar 0) (aCons (e2 (lLst (aCons (eC (.int 3)) (aCons (eC (.int 8)) aNil))) (e1 (aCons (eVar 0) (aCons (eC (.int 2)) aNil)) m__law_draw) lIx) aNil)) m__law_draw) oAdd) (gSet 8)) (sSeq (sAsg (e2 (lLst (aCons (eC (.str "held")) (aCons (eC (.str "held")) (aCons (eC (.str "shown")) (aCons (eC (.str "gone")) aNil))))) (e1 (aCons (eVar 0) (aCons (eC (.int 4)) aNil)) m__law_draw) lIx) (gSet 9)) (sSeq (sAsg (e2 (eVar 3) (e2 (lLst (aCons (eC (.int 0)) (aCons (eC (.int 0)) (aCons (e1 (aCons (eVar 0) (aCons (eC (.int 4)) aNil)) m__law_draw) aNil)))) (e1 (aCons (eVar 0) (aCons (eC (.int 3)) aNil)) m__law_draw) lIx) oAdd) (gSet 3)) (sSeq (sAsg (eVar 3) (gSet 10)) (sSeq (sIf (e2 (eVar 9) (eC (.str "gone")) cEq) (sAsg (e2 (eC (.int 1)) (e1 (aCons (eVar 0) (aCons (eVar 3) aNil)) m__law_draw) oAdd) (gSet 10)) (sAsg (e2 (eVar 3) (eVar 8) oAdd) (gSet 3))) (sExpr (eMt (eVar 2) (aCons (eTup (aCons (eVar 10) (aCons (eVar 8) (aCons (eVar 9) aNil)))) aNil) mAppend)))))))) (sSeq (sAsg (e1 (lLc (e1 (e1 (aCons (eVar 0) (aCons (eC (.int 3)) aNil)) m__law_draw) iRange1) (gSet 4) bYes (e1 (aCons (eVar 0) aNil) m__law_number) [4]) sTup) (gSet 5)) (sSeq (sAsg (eNew (lLst aNil)) (gSet 6)) (sSeq (sFor (e1 (eVar 2) iVal) (gTupD 3 (gConsD (gSet 10) (gConsD (gSet 8) (gConsD (gSet 9) gNilD)))) (sSeq (sAsg (eNew (lLc (e1 (eVar 8) iRange1) (gSet 4) bYes (e2 (lLst (aCons (eC (.non)) (aCons (e1 (aCons (eVar 0) (aCons (eVar 2) aNil)) m__law_any_value) aNil))) (e1 (aCons (eB (e2 (e1 (aCons (eVar 0) (aCons (eC (.int 4)) aNil)) m__law_draw) (eC (.int 0)) cGt)) aNil) oInt) lIx) [4])) (gSet 11)) (sExpr (eMt (eVar 6) (aCons (eTup (aCons (eVar 10) (aCons (eVar 8) (aCons (eVar 9) (aCons (eIf (e2 (eVar 9) (eC (.str "gone")) cNe) (e1 (e1 (eVar 11) seqOf) sTup) (eTup aNil)) aNil))))) aNil) mAppend)))) (sSeq (sAsg (e1 (lLc (e1 (eC (.int 8)) iRange1) (gSet 4) bYes (e2 (lLst (aCons (eC (.non)) (aCons (e1 (aCons (eVar 0) (aCons (eVar 2) aNil)) m__law_any_value) aNil))) (e1 (aCons (eB (e2 (e1 (aCons (eVar 0) (aCons (eC (.int 5)) aNil)) m__law_draw) (eC (.int 0)) cGt)) aNil) oInt) lIx) [4]) sTup) (gSet 7)) (sRet (eTup (aCons (e2 (e2 (eVar 3) (eC (.int 9)) oAdd) (e1 (aCons (eVar 0) (aCons (eC (.int 6)) aNil)) m__law_draw) oAdd) (aCons (e1 (e1 (eVar 6) seqOf) sTup) (aCons (eVar 7) (aCons (eVar 5) aNil)))))))))))))
def m__law_state : List D → AH → Res D := fnR 12 2 b__law_state
theorem ok__law_state (T : Txt K mg) : FnG P w K mg base 4 T._law_state.a T._law_state.fd ["_law_deck_here", "_law_most"] m__law_state := by
  have H__law_draw : FnG P w K mg base 3 T._law_draw.a T._law_draw.fd ["_law_deck_here", "_law_most"] (m__law_draw) := (ok__law_draw T).mono (by omega)
  have H__law_number : FnG P w K mg base 3 T._law_number.a T._law_number.fd ["_law_deck_here"] (m__law_number) := (ok__law_number T).mono (by omega)
  have H__law_any_value : FnG P w K mg base 3 T._law_any_value.a T._law_any_value.fd ["_law_deck_here", "_law_rooms"] (m__law_any_value) := (ok__law_any_value T).mono (by omega)
  refine fnG_R T._law_state.F sc__law_state (fun cdv A lo s H E hr => ?_)
  exact (pzs_cons (pz_set sc__law_state.nd rfl (by first | exact Or.inl rfl | exact Or.inr rfl) (pd_new (pl_lst pas_nil)))
    (pzs_cons (pz_set sc__law_state.nd rfl (by first | exact Or.inl rfl | exact Or.inr rfl) pd_int)
    (pzs_cons (pz_for (passes_of rfl) rfl (pf_range1 rfl T.n_range (pd_call H__law_draw hr rfl T._law_draw.g T._law_draw.k T._law_draw.b (takes_of rfl rfl rfl rfl) (pas_cons (pd_var 0) (pas_cons (pd_op od_add (pd_var 1) pd_int) pas_nil)) (many_cons (many_cons many_nil)))) (pt_name sc__law_state.nd rfl (by first | exact Or.inl rfl | exact Or.inr rfl)) (pzs_cons (pz_set sc__law_state.nd rfl (by first | exact Or.inl rfl | exact Or.inr rfl) (pd_op od_add pd_int (pd_call H__law_draw hr rfl T._law_draw.g T._law_draw.k T._law_draw.b (takes_of rfl rfl rfl rfl) (pas_cons (pd_var 0) (pas_cons (pd_ixL (pl_lst (pas_cons pd_int (pas_cons pd_int pas_nil))) (pd_call H__law_draw hr rfl T._law_draw.g T._law_draw.k T._law_draw.b (takes_of rfl rfl rfl rfl) (pas_cons (pd_var 0) (pas_cons pd_int pas_nil)) (many_cons (many_cons many_nil)))) pas_nil)) (many_cons (many_cons many_nil)))))
    (pzs_cons (pz_set sc__law_state.nd rfl (by first | exact Or.inl rfl | exact Or.inr rfl) (pd_ixL (pl_lst (pas_cons pd_str (pas_cons pd_str (pas_cons pd_str (pas_cons pd_str pas_nil))))) (pd_call H__law_draw hr rfl T._law_draw.g T._law_draw.k T._law_draw.b (takes_of rfl rfl rfl rfl) (pas_cons (pd_var 0) (pas_cons pd_int pas_nil)) (many_cons (many_cons many_nil)))))
    (pzs_cons (pz_set sc__law_state.nd rfl (by first | exact Or.inl rfl | exact Or.inr rfl) (pd_op od_add (pd_var 3) (pd_ixL (pl_lst (pas_cons pd_int (pas_cons pd_int (pas_cons (pd_call H__law_draw hr rfl T._law_draw.g T._law_draw.k T._law_draw.b (takes_of rfl rfl rfl rfl) (pas_cons (pd_var 0) (pas_cons pd_int pas_nil)) (many_cons (many_cons many_nil))) pas_nil)))) (pd_call H__law_draw hr rfl T._law_draw.g T._law_draw.k T._law_draw.b (takes_of rfl rfl rfl rfl) (pas_cons (pd_var 0) (pas_cons pd_int pas_nil)) (many_cons (many_cons many_nil))))))
    (pzs_cons (pz_set sc__law_state.nd rfl (by first | exact Or.inl rfl | exact Or.inr rfl) (pd_var 3))
    (pzs_cons (pz_if (pb_cmp (od_eq hr) (pd_var 9) pd_str) (pzs_one (pz_set sc__law_state.nd rfl (by first | exact Or.inl rfl | exact Or.inr rfl) (pd_op od_add pd_int (pd_call H__law_draw hr rfl T._law_draw.g T._law_draw.k T._law_draw.b (takes_of rfl rfl rfl rfl) (pas_cons (pd_var 0) (pas_cons (pd_var 3) pas_nil)) (many_cons (many_cons many_nil)))))) (pzs_one (pz_set sc__law_state.nd rfl (by first | exact Or.inl rfl | exact Or.inr rfl) (pd_op od_add (pd_var 3) (pd_var 8)))))
    (pzs_one (pz_expr (pd_ml PySem.F.plainAttrs_list PySem.F.slot_list_append PySem.F.type_list_append md_append (pd_var 2) (pas_cons (pd_tup (pas_cons (pd_var 10) (pas_cons (pd_var 8) (pas_cons (pd_var 9) pas_nil)))) pas_nil))))))))))
    (pzs_cons (pz_set sc__law_state.nd rfl (by first | exact Or.inl rfl | exact Or.inr rfl) (pg_callST cs_tuple rfl T.n_tuple (by decide +kernel) (pq_l (pl_lcv rfl sc__law_state.nd (pf_range1 rfl T.n_range (pd_call H__law_draw hr rfl T._law_draw.g T._law_draw.k T._law_draw.b (takes_of rfl rfl rfl rfl) (pas_cons (pd_var 0) (pas_cons pd_int pas_nil)) (many_cons (many_cons many_nil)))) (blkOk_by (N := ["_law_deck_here", "_law_most", "_law_rooms", "_law_at", "_law_k", "_law_told", "_law_whole", "_law_registers", "_law_size", "_law_mode", "_law_base", "_law_cells"]) (sc := defScope s__law_state) (own := [("_law_k", 4)]) (by decide +kernel)) rfl (by decide) (fun _ _ _ _ _ => (pt_name sc__law_state.nd rfl (by first | exact Or.inl rfl | exact Or.inr rfl))) (fun _ _ _ _ _ => ptsd_nil) (fun _ _ _ _ _ => (pd_call H__law_number hr rfl T._law_number.g T._law_number.k T._law_number.b takes0 (pas_cons (pd_var 0) pas_nil) (many_cons many_nil)))))))
    (pzs_cons (pz_set sc__law_state.nd rfl (by first | exact Or.inl rfl | exact Or.inr rfl) (pd_new (pl_lst pas_nil)))
    (pzs_cons (pz_for (passes_of rfl) rfl (pf_d (pd_var 2)) (pt_tup rfl (ptn_cons (pt_name sc__law_state.nd rfl (by first | exact Or.inl rfl | exact Or.inr rfl)) (ptn_cons (pt_name sc__law_state.nd rfl (by first | exact Or.inl rfl | exact Or.inr rfl)) (ptn_cons (pt_name sc__law_state.nd rfl (by first | exact Or.inl rfl | exact Or.inr rfl)) ptn_nil)))) (pzs_cons (pz_setLcv rfl sc__law_state.nd rfl rfl (sw_true rfl rfl rfl (by decide +kernel)) (pf_range1 rfl T.n_range (pd_var 8)) (blkOk_by (N := ["_law_deck_here", "_law_most", "_law_rooms", "_law_at", "_law_k", "_law_told", "_law_whole", "_law_registers", "_law_size", "_law_mode", "_law_base", "_law_cells"]) (sc := defScope s__law_state) (own := [("_law_k", 4)]) (by decide +kernel)) rfl (by decide) (fun _ _ _ _ _ => (pt_name sc__law_state.nd rfl (by first | exact Or.inl rfl | exact Or.inr rfl))) (fun _ _ _ _ _ => ptsd_nil) (fun _ _ _ _ _ => (pd_ixL (pl_lst (pas_cons pd_non (pas_cons (pd_call H__law_any_value hr rfl T._law_any_value.g T._law_any_value.k T._law_any_value.b takes0 (pas_cons (pd_var 0) (pas_cons (pd_var 2) pas_nil)) (many_cons (many_cons many_nil))) pas_nil))) (pd_callT cd_int rfl T.n_int (by decide +kernel) (pas_cons (pd_cmp od_gt (pd_call H__law_draw hr rfl T._law_draw.g T._law_draw.k T._law_draw.b takes0 (pas_cons (pd_var 0) (pas_cons pd_int pas_nil)) (many_cons (many_cons many_nil))) pd_int) pas_nil)))))
    (pzs_one (pz_expr (pd_ml PySem.F.plainAttrs_list PySem.F.slot_list_append PySem.F.type_list_append md_append (pd_var 6) (pas_cons (pd_tup (pas_cons (pd_var 10) (pas_cons (pd_var 8) (pas_cons (pd_var 9) (pas_cons (pd_if (pb_cmp (od_ne hr) (pd_var 9) pd_str) (pg_callST cs_tuple rfl T.n_tuple (by decide +kernel) (pq_d (pd_var 11))) (pd_tup pas_nil)) pas_nil))))) pas_nil))))))
    (pzs_cons (pz_set sc__law_state.nd rfl (by first | exact Or.inl rfl | exact Or.inr rfl) (pg_callST cs_tuple rfl T.n_tuple (by decide +kernel) (pq_l (pl_lcv rfl sc__law_state.nd (pf_range1 rfl T.n_range pd_int) (blkOk_by (N := ["_law_deck_here", "_law_most", "_law_rooms", "_law_at", "_law_k", "_law_told", "_law_whole", "_law_registers", "_law_size", "_law_mode", "_law_base", "_law_cells"]) (sc := defScope s__law_state) (own := [("_law_k", 4)]) (by decide +kernel)) rfl (by decide) (fun _ _ _ _ _ => (pt_name sc__law_state.nd rfl (by first | exact Or.inl rfl | exact Or.inr rfl))) (fun _ _ _ _ _ => ptsd_nil) (fun _ _ _ _ _ => (pd_ixL (pl_lst (pas_cons pd_non (pas_cons (pd_call H__law_any_value hr rfl T._law_any_value.g T._law_any_value.k T._law_any_value.b takes0 (pas_cons (pd_var 0) (pas_cons (pd_var 2) pas_nil)) (many_cons (many_cons many_nil))) pas_nil))) (pd_callT cd_int rfl T.n_int (by decide +kernel) (pas_cons (pd_cmp od_gt (pd_call H__law_draw hr rfl T._law_draw.g T._law_draw.k T._law_draw.b takes0 (pas_cons (pd_var 0) (pas_cons pd_int pas_nil)) (many_cons (many_cons many_nil))) pd_int) pas_nil))))))))
    (pzs_one (pz_ret (pd_tup (pas_cons (pd_op od_add (pd_op od_add (pd_var 3) pd_int) (pd_call H__law_draw hr rfl T._law_draw.g T._law_draw.k T._law_draw.b (takes_of rfl rfl rfl rfl) (pas_cons (pd_var 0) (pas_cons pd_int pas_nil)) (many_cons (many_cons many_nil)))) (pas_cons (pg_callST cs_tuple rfl T.n_tuple (by decide +kernel) (pq_d (pd_var 6))) (pas_cons (pd_var 7) (pas_cons (pd_var 5) pas_nil))))))))))))))
theorem sc__law_held_at : FnScope ["_law_state_here", "_law_base", "_law_size", "_law_room"] ["_law_state_here", "_law_base", "_law_size"] (defScope s__law_held_at) := ⟨rfl, rfl, rfl, by decide +kernel, rfl, by decide +kernel, by decide +kernel⟩
def b__law_held_at : SM := (sSeq (sAsg (eTup (aCons (eVar 1) (aCons (eVar 2) (aCons (eC (.str "held")) (aCons (e2 (eTup (aCons (eC (.non)) aNil)) (eVar 2) oMulT) aNil))))) (gSet 3)) (sRet (eTup (aCons (e2 (eVar 0) (eC (.int 0)) oIx) (aCons (e2 (e2 (eVar 0) (eC (.int 1)) oIx) (eTup (aCons (eVar 3) aNil)) oAdd) (aCons (e2 (eVar 0) (eC (.int 2)) oIx) (aCons (e2 (eVar 0) (eC (.int 3)) oIx) aNil)))))))
def m__law_held_at : List D → AH → Res D := fnR 4 3 b__law_held_at
theorem ok__law_held_at (T : Txt K mg) : FnG P w K mg base 1 T._law_held_at.a T._law_held_at.fd ["_law_state_here", "_law_base", "_law_size"] m__law_held_at := by
  refine fnG_R T._law_held_at.F sc__law_held_at (fun cdv A lo s H E hr => ?_)
  exact (pzs_cons (pz_set sc__law_held_at.nd rfl (by first | exact Or.inl rfl | exact Or.inr rfl) (pd_tup (pas_cons (pd_var 1) (pas_cons (pd_var 2) (pas_cons pd_str (pas_cons (pd_op od_mulT (pd_tup (pas_cons pd_non pas_nil)) (pd_var 2)) pas_nil))))))
    (pzs_one (pz_ret (pd_tup (pas_cons (pd_ix (pd_var 0) pd_int) (pas_cons (pd_op od_add (pd_ix (pd_var 0) pd_int) (pd_tup (pas_cons (pd_var 3) pas_nil))) (pas_cons (pd_ix (pd_var 0) pd_int) (pas_cons (pd_ix (pd_var 0) pd_int) pas_nil))))))))
theorem sc__law_gone_at : FnScope ["_law_state_here", "_law_at", "_law_base", "_law_size", "_law_mode", "_law_cells"] ["_law_state_here", "_law_at"] (defScope s__law_gone_at) := ⟨rfl, rfl, rfl, by decide +kernel, rfl, by decide +kernel, by decide +kernel⟩
def b__law_gone_at : SM := (sSeq (sAsg (e2 (e2 (eVar 0) (eC (.int 1)) oIx) (eVar 1) oIx) (gTupD 4 (gConsD (gSet 2) (gConsD (gSet 3) (gConsD (gSet 4) (gConsD (gSet 5) gNilD)))))) (sRet (eTup (aCons (e2 (eVar 0) (eC (.int 0)) oIx) (aCons (e2 (e2 (e3 (e2 (eVar 0) (eC (.int 1)) oIx) (oPart none) (oPart (some (eVar 1))) oCut) (eTup (aCons (eTup (aCons (eVar 2) (aCons (eVar 3) (aCons (eC (.str "gone")) (aCons (eTup aNil) aNil))))) aNil)) oAdd) (e3 (e2 (eVar 0) (eC (.int 1)) oIx) (oPart (some (e2 (eVar 1) (eC (.int 1)) oAdd))) (oPart none) oCut) oAdd) (aCons (e2 (eVar 0) (eC (.int 2)) oIx) (aCons (e2 (eVar 0) (eC (.int 3)) oIx) aNil)))))))
def m__law_gone_at : List D → AH → Res D := fnR 6 2 b__law_gone_at
theorem ok__law_gone_at (T : Txt K mg) : FnG P w K mg base 1 T._law_gone_at.a T._law_gone_at.fd ["_law_state_here", "_law_at"] m__law_gone_at := by
  refine fnG_R T._law_gone_at.F sc__law_gone_at (fun cdv A lo s H E hr => ?_)
  exact (pzs_cons (pz_asg (pd_ix (pd_ix (pd_var 0) pd_int) (pd_var 1)) (pt_tup rfl (ptn_cons (pt_name sc__law_gone_at.nd rfl (by first | exact Or.inl rfl | exact Or.inr rfl)) (ptn_cons (pt_name sc__law_gone_at.nd rfl (by first | exact Or.inl rfl | exact Or.inr rfl)) (ptn_cons (pt_name sc__law_gone_at.nd rfl (by first | exact Or.inl rfl | exact Or.inr rfl)) (ptn_cons (pt_name sc__law_gone_at.nd rfl (by first | exact Or.inl rfl | exact Or.inr rfl)) ptn_nil))))))
    (pzs_one (pz_ret (pd_tup (pas_cons (pd_ix (pd_var 0) pd_int) (pas_cons (pd_op od_add (pd_op od_add (pd_cut (pd_ix (pd_var 0) pd_int) pp_none (pp_some (pd_var 1))) (pd_tup (pas_cons (pd_tup (pas_cons (pd_var 2) (pas_cons (pd_var 3) (pas_cons pd_str (pas_cons (pd_tup pas_nil) pas_nil))))) pas_nil))) (pd_cut (pd_ix (pd_var 0) pd_int) (pp_some (pd_op od_add (pd_var 1) pd_int)) pp_none)) (pas_cons (pd_ix (pd_var 0) pd_int) (pas_cons (pd_ix (pd_var 0) pd_int) pas_nil))))))))
theorem sc__law_is_right : FnScope ["_law_state_here", "_law_many", "_law_bases", "_law_base"] ["_law_state_here", "_law_many"] (defScope s__law_is_right) := ⟨rfl, rfl, rfl, by decide +kernel, rfl, by decide +kernel, by decide +kernel⟩
def b__law_is_right : SM := (sSeq (sAsg (e1 (aCons (eVar 0) (aCons (eVar 1) aNil)) m_right_bases) (gSet 2)) (sSeq (sFor (e2 (eC (.int 0)) (e2 (e2 (eVar 0) (eC (.int 0)) oIx) (eC (.int 1)) oAdd) iRange2) (gSet 3) (sIf (e2 (e1 (aCons (e1 (aCons (e1 (aCons (eVar 0) (aCons (eVar 3) (aCons (eVar 1) aNil))) m__law_held_at) aNil) m_is_state) aNil) oRepr) (e1 (aCons (eB (e2 (eVar 3) (eVar 2) cIn)) aNil) oRepr) cNe) (sRet (eC (.bl false))) sSkip)) (sRet (eC (.bl true)))))
def m__law_is_right : List D → AH → Res D := fnR 4 2 b__law_is_right
theorem ok__law_is_right (T : Txt K mg) : FnG P w K mg base 9 T._law_is_right.a T._law_is_right.fd ["_law_state_here", "_law_many"] m__law_is_right := by
  have H_right_bases : FnG P w K mg base 8 T.right_bases.a T.right_bases.fd ["state", "size"] (m_right_bases) := (ok_right_bases T).mono (by omega)
  have H_is_state : FnG P w K mg base 8 T.is_state.a T.is_state.fd ["thing"] (m_is_state) := (ok_is_state T).mono (by omega)
  have H__law_held_at : FnG P w K mg base 8 T._law_held_at.a T._law_held_at.fd ["_law_state_here", "_law_base", "_law_size"] (m__law_held_at) := (ok__law_held_at T).mono (by omega)
  refine fnG_R T._law_is_right.F sc__law_is_right (fun cdv A lo s H E hr => ?_)
  exact (pzs_cons (pz_set sc__law_is_right.nd rfl (by first | exact Or.inl rfl | exact Or.inr rfl) (pd_call H_right_bases hr rfl T.right_bases.g T.right_bases.k T.right_bases.b (takes_of rfl rfl rfl rfl) (pas_cons (pd_var 0) (pas_cons (pd_var 1) pas_nil)) (many_cons (many_cons many_nil))))
    (pzs_cons (pz_for (passes_of rfl) rfl (pf_range2 rfl T.n_range pd_int (pd_op od_add (pd_ix (pd_var 0) pd_int) pd_int)) (pt_name sc__law_is_right.nd rfl (by first | exact Or.inl rfl | exact Or.inr rfl)) (pzs_one (pz_if (pb_cmp (od_ne hr) (pd_callB (cd_repr hr) rfl T.n_repr (by decide +kernel) (pas_cons (pd_call H_is_state hr rfl T.is_state.g T.is_state.k T.is_state.b (takes_of rfl rfl rfl rfl) (pas_cons (pd_call H__law_held_at hr rfl T._law_held_at.g T._law_held_at.k T._law_held_at.b (takes_of rfl rfl rfl rfl) (pas_cons (pd_var 0) (pas_cons (pd_var 3) (pas_cons (pd_var 1) pas_nil))) (many_cons (many_cons (many_cons many_nil)))) pas_nil) (many_cons many_nil)) pas_nil)) (pd_callB (cd_repr hr) rfl T.n_repr (by decide +kernel) (pas_cons (pd_cmp (od_in hr) (pd_var 3) (pd_var 2)) pas_nil))) (pzs_one (pz_ret pd_bl)) pzs_nil)))
    (pzs_one (pz_ret pd_bl))))
theorem sc__law_behind_right : FnScope ["_law_state_here", "_law_base", "_law_many", "_law_size", "_law_bases", "_law_due", "_law_one"] ["_law_state_here", "_law_base", "_law_many", "_law_size"] (defScope s__law_behind_right) := ⟨rfl, rfl, rfl, by decide +kernel, rfl, by decide +kernel, by decide +kernel⟩
def b__law_behind_right : SM := (sSeq (sAsg (e1 (aCons (e1 (aCons (eVar 0) (aCons (eVar 1) (aCons (eVar 2) aNil))) m__law_held_at) (aCons (eVar 3) aNil)) m_right_bases) (gSet 4)) (sSeq (sAsg (eNew (lLc (e1 (e1 (aCons (eVar 0) (aCons (eVar 3) aNil)) m_right_bases) iVal) (gSet 6) (bOr (e2 (e2 (eVar 6) (eVar 3) oAdd) (eVar 1) cLe) (e2 (e2 (eVar 1) (eVar 2) oAdd) (eVar 6) cLe)) (eVar 6) [6])) (gSet 5)) (sRet (eB (e2 (eVar 4) (e1 (e1 (eVar 5) seqOf) sTup) cEq)))))
def m__law_behind_right : List D → AH → Res D := fnR 7 4 b__law_behind_right
theorem ok__law_behind_right (T : Txt K mg) : FnG P w K mg base 3 T._law_behind_right.a T._law_behind_right.fd ["_law_state_here", "_law_base", "_law_many", "_law_size"] m__law_behind_right := by
  have H_right_bases : FnG P w K mg base 2 T.right_bases.a T.right_bases.fd ["state", "size"] (m_right_bases) := (ok_right_bases T).mono (by omega)
  have H__law_held_at : FnG P w K mg base 2 T._law_held_at.a T._law_held_at.fd ["_law_state_here", "_law_base", "_law_size"] (m__law_held_at) := (ok__law_held_at T).mono (by omega)
  refine fnG_R T._law_behind_right.F sc__law_behind_right (fun cdv A lo s H E hr => ?_)
  exact (pzs_cons (pz_set sc__law_behind_right.nd rfl (by first | exact Or.inl rfl | exact Or.inr rfl) (pd_call H_right_bases hr rfl T.right_bases.g T.right_bases.k T.right_bases.b (takes_of rfl rfl rfl rfl) (pas_cons (pd_call H__law_held_at hr rfl T._law_held_at.g T._law_held_at.k T._law_held_at.b (takes_of rfl rfl rfl rfl) (pas_cons (pd_var 0) (pas_cons (pd_var 1) (pas_cons (pd_var 2) pas_nil))) (many_cons (many_cons (many_cons many_nil)))) (pas_cons (pd_var 3) pas_nil)) (many_cons (many_cons many_nil))))
    (pzs_cons (pz_setLcv rfl sc__law_behind_right.nd rfl rfl (sw_true rfl rfl rfl (by decide +kernel)) (pf_d (pd_call H_right_bases hr rfl T.right_bases.g T.right_bases.k T.right_bases.b (takes_of rfl rfl rfl rfl) (pas_cons (pd_var 0) (pas_cons (pd_var 3) pas_nil)) (many_cons (many_cons many_nil)))) (blkOk_by (N := ["_law_state_here", "_law_base", "_law_many", "_law_size", "_law_bases", "_law_due", "_law_one"]) (sc := defScope s__law_behind_right) (own := [("_law_one", 6)]) (by decide +kernel)) rfl (by decide) (fun _ _ _ _ _ => (pt_name sc__law_behind_right.nd rfl (by first | exact Or.inl rfl | exact Or.inr rfl))) (fun _ _ _ _ _ => (ptsd_one (pbw (pbw_or (pb_cmp od_le (pd_op od_add (pd_var 6) (pd_var 3)) (pd_var 1)) (pbw_or1 (pb_cmp od_le (pd_op od_add (pd_var 1) (pd_var 2)) (pd_var 6))))))) (fun _ _ _ _ _ => (pd_var 6)))
    (pzs_one (pz_ret (pd_cmp (od_eq hr) (pd_var 4) (pg_callST cs_tuple rfl T.n_tuple (by decide +kernel) (pq_d (pd_var 5))))))))
theorem sc__law_wider_right : FnScope ["_law_state_here", "_law_many", "_law_wide", "_law_free", "_law_more", "_law_base"] ["_law_state_here", "_law_many"] (defScope s__law_wider_right) := ⟨rfl, rfl, rfl, by decide +kernel, rfl, by decide +kernel, by decide +kernel⟩
def b__law_wider_right : SM := (sSeq (sAsg (e2 (eTup (aCons (e2 (e2 (eVar 0) (eC (.int 0)) oIx) (eC (.int 9)) oAdd) aNil)) (e3 (eVar 0) (oPart (some (eC (.int 1)))) (oPart none) oCut) oAdd) (gSet 2)) (sSeq (sAsg (e1 (aCons (eVar 0) (aCons (eVar 1) aNil)) m_right_bases) (gSet 3)) (sSeq (sAsg (eNew (lLc (e1 (e1 (aCons (eVar 2) (aCons (eVar 1) aNil)) m_right_bases) iVal) (gSet 5) (e2 (e2 (eVar 5) (eVar 1) oAdd) (e2 (eVar 0) (eC (.int 0)) oIx) cLe) (eVar 5) [5])) (gSet 4)) (sRet (eAnd (eB (e2 (e1 (e1 (eVar 4) seqOf) sTup) (eVar 3) cEq)) (eB (e2 (e2 (e2 (e2 (eVar 0) (eC (.int 0)) oIx) (eC (.int 9)) oAdd) (eVar 1) oSub) (e1 (aCons (eVar 2) (aCons (eVar 1) aNil)) m_right_bases) cIn)))))))
def m__law_wider_right : List D → AH → Res D := fnR 6 2 b__law_wider_right
theorem ok__law_wider_right (T : Txt K mg) : FnG P w K mg base 3 T._law_wider_right.a T._law_wider_right.fd ["_law_state_here", "_law_many"] m__law_wider_right := by
  have H_right_bases : FnG P w K mg base 2 T.right_bases.a T.right_bases.fd ["state", "size"] (m_right_bases) := (ok_right_bases T).mono (by omega)
  refine fnG_R T._law_wider_right.F sc__law_wider_right (fun cdv A lo s H E hr => ?_)
  exact (pzs_cons (pz_set sc__law_wider_right.nd rfl (by first | exact Or.inl rfl | exact Or.inr rfl) (pd_op od_add (pd_tup (pas_cons (pd_op od_add (pd_ix (pd_var 0) pd_int) pd_int) pas_nil)) (pd_cut (pd_var 0) (pp_some pd_int) pp_none)))
    (pzs_cons (pz_set sc__law_wider_right.nd rfl (by first | exact Or.inl rfl | exact Or.inr rfl) (pd_call H_right_bases hr rfl T.right_bases.g T.right_bases.k T.right_bases.b (takes_of rfl rfl rfl rfl) (pas_cons (pd_var 0) (pas_cons (pd_var 1) pas_nil)) (many_cons (many_cons many_nil))))
    (pzs_cons (pz_setLcv rfl sc__law_wider_right.nd rfl rfl (sw_true rfl rfl rfl (by decide +kernel)) (pf_d (pd_call H_right_bases hr rfl T.right_bases.g T.right_bases.k T.right_bases.b (takes_of rfl rfl rfl rfl) (pas_cons (pd_var 2) (pas_cons (pd_var 1) pas_nil)) (many_cons (many_cons many_nil)))) (blkOk_by (N := ["_law_state_here", "_law_many", "_law_wide", "_law_free", "_law_more", "_law_base"]) (sc := defScope s__law_wider_right) (own := [("_law_base", 5)]) (by decide +kernel)) rfl (by decide) (fun _ _ _ _ _ => (pt_name sc__law_wider_right.nd rfl (by first | exact Or.inl rfl | exact Or.inr rfl))) (fun _ _ _ _ _ => (ptsd_one (pb_cmp od_le (pd_op od_add (pd_var 5) (pd_var 1)) (pd_ix (pd_var 0) pd_int)))) (fun _ _ _ _ _ => (pd_var 5)))
    (pzs_one (pz_ret (pd_and (pd_cmp (od_eq hr) (pg_callST cs_tuple rfl T.n_tuple (by decide +kernel) (pq_d (pd_var 4))) (pd_var 3)) (pd_one (pd_cmp (od_in hr) (pd_op od_sub (pd_op od_add (pd_ix (pd_var 0) pd_int) pd_int) (pd_var 1)) (pd_call H_right_bases hr rfl T.right_bases.g T.right_bases.k T.right_bases.b (takes_of rfl rfl rfl rfl) (pas_cons (pd_var 2) (pas_cons (pd_var 1) pas_nil)) (many_cons (many_cons many_nil)))))))))))
theorem sc_law : FnScope ["_law_script", "_law_deck_here", "_law_many_rooms", "_law_state_here", "_law_turn", "_law_goes", "_law_free", "_law_many", "_law_size", "_law_base", "_law_ahead"] ["_law_script"] (defScope s_law) := ⟨rfl, rfl, rfl, by decide +kernel, rfl, by decide +kernel, by decide +kernel⟩
def b_law : SM := (sSeq (sAsg (e1 (aCons (eVar 0) aNil) m__law_deck) (gSet 1)) (sSeq (sAsg (eB (e2 (e1 (aCons (eVar 1) (aCons (eC (.int 2)) aNil)) m__law_draw) (eC (.int 1)) cEq)) (gSet 2)) (sSeq (sAsg (eIf (e1 (eVar 2) truth) (e1 (aCons (eVar 1) (aCons (eC (.int 6)) aNil)) m__law_state) (e1 (aCons (e2 (eC (.int 2)) (e1 (aCons (eVar 1) (aCons (eC (.int 30)) aNil)) m__law_draw) oAdd) aNil) m_first_state)) (gSet 3)) (sSeq (sFor (e1 (e2 (eC (.int 1)) (e1 (aCons (eVar 1) (aCons (eC (.int 12)) aNil)) m__law_draw) oAdd) iRange1) (gSet 4) (sSeq (sPar2 7 8 (aCons (e2 (eC (.int 1)) (e1 (aCons (eVar 1) (aCons (eC (.int 8)) aNil)) m__law_draw) oAdd) (aCons (e2 (eC (.int 1)) (e1 (aCons (eVar 1) (aCons (eC (.int 8)) aNil)) m__law_draw) oAdd) aNil))) (sSeq (sAsg (eB (e2 (e1 (aCons (eVar 1) (aCons (eC (.int 3)) aNil)) m__law_draw) (eC (.int 1)) cEq)) (gSet 5)) (sSeq (sAsg (e1 (aCons (eVar 3) (aCons (eVar 7) aNil)) m_right_bases) (gSet 6)) (sSeq (sIf (bOr (bNot (e1 (e1 (aCons (eVar 3) (aCons (eVar 7) aNil)) m__law_is_right) truth)) (bNot (e1 (e1 (aCons (eVar 3) (aCons (eVar 7) aNil)) m__law_wider_right) truth))) (sRet (eC (.bl false))) sSkip) (sIf (e2 (eVar 6) (eTup aNil) cNe) (sSeq (sAsg (e1 (aCons (eVar 1) (aCons (eVar 6) aNil)) m__law_pick) (gSet 9)) (sSeq (sIf (bNot (e1 (e1 (aCons (eVar 3) (aCons (eVar 9) (aCons (eVar 7) (aCons (eVar 8) aNil)))) m__law_behind_right) truth)) (sRet (eC (.bl false))) sSkip) (sSeq (sAsg (e1 (aCons (eVar 3) (aCons (eVar 8) aNil)) m_right_bases) (gSet 10)) (sSeq (sAsg (e1 (aCons (eVar 3) (aCons (eVar 9) (aCons (eVar 7) aNil))) m__law_held_at) (gSet 3)) (sSeq (sIf (e1 (eVar 5) truth) (sAsg (e1 (aCons (eVar 3) (aCons (e2 (e1 (aCons (e2 (eVar 3) (eC (.int 1)) oIx) aNil) oLenA) (eC (.int 1)) oSub) aNil)) m__law_gone_at) (gSet 3)) sSkip) (sIf (bAnd (e1 (eVar 5) truth) (e2 (e1 (aCons (eVar 3) (aCons (eVar 8) aNil)) m_right_bases) (eVar 10) cNe)) (sRet (eC (.bl false))) sSkip)))))) sSkip)))))) (sRet (eC (.bl true)))))))
def m_law : List D → AH → Res D := fnR 11 1 b_law
theorem ok_law (T : Txt K mg) : FnG P w K mg base 10 T.law.a T.law.fd ["_law_script"] m_law := by
  have H__law_deck : FnG P w K mg base 9 T._law_deck.a T._law_deck.fd ["_law_script"] (m__law_deck) := (ok__law_deck T).mono (by omega)
  have H__law_draw : FnG P w K mg base 9 T._law_draw.a T._law_draw.fd ["_law_deck_here", "_law_most"] (m__law_draw) := (ok__law_draw T).mono (by omega)
  have H__law_state : FnG P w K mg base 9 T._law_state.a T._law_state.fd ["_law_deck_here", "_law_most"] (m__law_state) := (ok__law_state T).mono (by omega)
  have H_first_state : FnG P w K mg base 9 T.first_state.a T.first_state.fd ["span"] (m_first_state) := (ok_first_state T).mono (by omega)
  have H_right_bases : FnG P w K mg base 9 T.right_bases.a T.right_bases.fd ["state", "size"] (m_right_bases) := (ok_right_bases T).mono (by omega)
  have H__law_is_right : FnG P w K mg base 9 T._law_is_right.a T._law_is_right.fd ["_law_state_here", "_law_many"] (m__law_is_right) := (ok__law_is_right T).mono (by omega)
  have H__law_wider_right : FnG P w K mg base 9 T._law_wider_right.a T._law_wider_right.fd ["_law_state_here", "_law_many"] (m__law_wider_right) := (ok__law_wider_right T).mono (by omega)
  have H__law_pick : FnG P w K mg base 9 T._law_pick.a T._law_pick.fd ["_law_deck_here", "_law_some"] (m__law_pick) := (ok__law_pick T).mono (by omega)
  have H__law_behind_right : FnG P w K mg base 9 T._law_behind_right.a T._law_behind_right.fd ["_law_state_here", "_law_base", "_law_many", "_law_size"] (m__law_behind_right) := (ok__law_behind_right T).mono (by omega)
  have H__law_held_at : FnG P w K mg base 9 T._law_held_at.a T._law_held_at.fd ["_law_state_here", "_law_base", "_law_size"] (m__law_held_at) := (ok__law_held_at T).mono (by omega)
  have H__law_gone_at : FnG P w K mg base 9 T._law_gone_at.a T._law_gone_at.fd ["_law_state_here", "_law_at"] (m__law_gone_at) := (ok__law_gone_at T).mono (by omega)
  refine fnG_R T.law.F sc_law (fun cdv A lo s H E hr => ?_)
  exact (pzs_cons (pz_set sc_law.nd rfl (by first | exact Or.inl rfl | exact Or.inr rfl) (pd_call H__law_deck hr rfl T._law_deck.g T._law_deck.k T._law_deck.b (takes_of rfl rfl rfl rfl) (pas_cons (pd_var 0) pas_nil) (many_cons many_nil)))
    (pzs_cons (pz_set sc_law.nd rfl (by first | exact Or.inl rfl | exact Or.inr rfl) (pd_cmp (od_eq hr) (pd_call H__law_draw hr rfl T._law_draw.g T._law_draw.k T._law_draw.b (takes_of rfl rfl rfl rfl) (pas_cons (pd_var 1) (pas_cons pd_int pas_nil)) (many_cons (many_cons many_nil))) pd_int))
    (pzs_cons (pz_set sc_law.nd rfl (by first | exact Or.inl rfl | exact Or.inr rfl) (pd_if (pb_val (pd_var 2)) (pd_call H__law_state hr rfl T._law_state.g T._law_state.k T._law_state.b (takes_of rfl rfl rfl rfl) (pas_cons (pd_var 1) (pas_cons pd_int pas_nil)) (many_cons (many_cons many_nil))) (pd_call H_first_state hr rfl T.first_state.g T.first_state.k T.first_state.b (takes_of rfl rfl rfl rfl) (pas_cons (pd_op od_add pd_int (pd_call H__law_draw hr rfl T._law_draw.g T._law_draw.k T._law_draw.b (takes_of rfl rfl rfl rfl) (pas_cons (pd_var 1) (pas_cons pd_int pas_nil)) (many_cons (many_cons many_nil)))) pas_nil) (many_cons many_nil))))
    (pzs_cons (pz_for (passes_of rfl) rfl (pf_range1 rfl T.n_range (pd_op od_add pd_int (pd_call H__law_draw hr rfl T._law_draw.g T._law_draw.k T._law_draw.b (takes_of rfl rfl rfl rfl) (pas_cons (pd_var 1) (pas_cons pd_int pas_nil)) (many_cons (many_cons many_nil))))) (pt_name sc_law.nd rfl (by first | exact Or.inl rfl | exact Or.inr rfl)) (pzs_cons (pz_par2W rfl sc_law.nd rfl rfl (by decide) rfl rfl (pas_cons (pd_op od_add pd_int (pd_call H__law_draw hr rfl T._law_draw.g T._law_draw.k T._law_draw.b (takes_of rfl rfl rfl rfl) (pas_cons (pd_var 1) (pas_cons pd_int pas_nil)) (many_cons (many_cons many_nil)))) (pas_cons (pd_op od_add pd_int (pd_call H__law_draw hr rfl T._law_draw.g T._law_draw.k T._law_draw.b (takes_of rfl rfl rfl rfl) (pas_cons (pd_var 1) (pas_cons pd_int pas_nil)) (many_cons (many_cons many_nil)))) pas_nil)) rfl (by decide +kernel) (by decide +kernel) (by decide +kernel) (by decide +kernel) (by decide +kernel))
    (pzs_cons (pz_set sc_law.nd rfl (by first | exact Or.inl rfl | exact Or.inr rfl) (pd_cmp (od_eq hr) (pd_call H__law_draw hr rfl T._law_draw.g T._law_draw.k T._law_draw.b (takes_of rfl rfl rfl rfl) (pas_cons (pd_var 1) (pas_cons pd_int pas_nil)) (many_cons (many_cons many_nil))) pd_int))
    (pzs_cons (pz_set sc_law.nd rfl (by first | exact Or.inl rfl | exact Or.inr rfl) (pd_call H_right_bases hr rfl T.right_bases.g T.right_bases.k T.right_bases.b (takes_of rfl rfl rfl rfl) (pas_cons (pd_var 3) (pas_cons (pd_var 7) pas_nil)) (many_cons (many_cons many_nil))))
    (pzs_cons (pz_if (pbw (pbw_or (pb_not (pb_val (pd_call H__law_is_right hr rfl T._law_is_right.g T._law_is_right.k T._law_is_right.b (takes_of rfl rfl rfl rfl) (pas_cons (pd_var 3) (pas_cons (pd_var 7) pas_nil)) (many_cons (many_cons many_nil))))) (pbw_or1 (pb_not (pb_val (pd_call H__law_wider_right hr rfl T._law_wider_right.g T._law_wider_right.k T._law_wider_right.b (takes_of rfl rfl rfl rfl) (pas_cons (pd_var 3) (pas_cons (pd_var 7) pas_nil)) (many_cons (many_cons many_nil)))))))) (pzs_one (pz_ret pd_bl)) pzs_nil)
    (pzs_one (pz_if (pb_cmp (od_ne hr) (pd_var 6) (pd_tup pas_nil)) (pzs_cons (pz_set sc_law.nd rfl (by first | exact Or.inl rfl | exact Or.inr rfl) (pd_call H__law_pick hr rfl T._law_pick.g T._law_pick.k T._law_pick.b (takes_of rfl rfl rfl rfl) (pas_cons (pd_var 1) (pas_cons (pd_var 6) pas_nil)) (many_cons (many_cons many_nil))))
    (pzs_cons (pz_if (pb_not (pb_val (pd_call H__law_behind_right hr rfl T._law_behind_right.g T._law_behind_right.k T._law_behind_right.b (takes_of rfl rfl rfl rfl) (pas_cons (pd_var 3) (pas_cons (pd_var 9) (pas_cons (pd_var 7) (pas_cons (pd_var 8) pas_nil)))) (many_cons (many_cons (many_cons (many_cons many_nil))))))) (pzs_one (pz_ret pd_bl)) pzs_nil)
    (pzs_cons (pz_set sc_law.nd rfl (by first | exact Or.inl rfl | exact Or.inr rfl) (pd_call H_right_bases hr rfl T.right_bases.g T.right_bases.k T.right_bases.b (takes_of rfl rfl rfl rfl) (pas_cons (pd_var 3) (pas_cons (pd_var 8) pas_nil)) (many_cons (many_cons many_nil))))
    (pzs_cons (pz_set sc_law.nd rfl (by first | exact Or.inl rfl | exact Or.inr rfl) (pd_call H__law_held_at hr rfl T._law_held_at.g T._law_held_at.k T._law_held_at.b (takes_of rfl rfl rfl rfl) (pas_cons (pd_var 3) (pas_cons (pd_var 9) (pas_cons (pd_var 7) pas_nil))) (many_cons (many_cons (many_cons many_nil)))))
    (pzs_cons (pz_if (pb_val (pd_var 5)) (pzs_one (pz_set sc_law.nd rfl (by first | exact Or.inl rfl | exact Or.inr rfl) (pd_call H__law_gone_at hr rfl T._law_gone_at.g T._law_gone_at.k T._law_gone_at.b (takes_of rfl rfl rfl rfl) (pas_cons (pd_var 3) (pas_cons (pd_op od_sub (pd_callB cd_len rfl T.n_len (by decide +kernel) (pas_cons (pd_ix (pd_var 3) pd_int) pas_nil)) pd_int) pas_nil)) (many_cons (many_cons many_nil))))) pzs_nil)
    (pzs_one (pz_if (pbw (pbw_and (pb_val (pd_var 5)) (pbw_and1 (pb_cmp (od_ne hr) (pd_call H_right_bases hr rfl T.right_bases.g T.right_bases.k T.right_bases.b (takes_of rfl rfl rfl rfl) (pas_cons (pd_var 3) (pas_cons (pd_var 8) pas_nil)) (many_cons (many_cons many_nil))) (pd_var 10))))) (pzs_one (pz_ret pd_bl)) pzs_nil))))))) pzs_nil)))))))
    (pzs_one (pz_ret pd_bl))))))
end
theorem all_mk {P : Program} {w : World} {K : PySem.W.Frag} {h : Heap} {mg : Str → Option Value} {fa : Addr} (X : K.In h) (G : h.Ns mainGlobals mg) (hfa : mg "law" = some (.ref fa))
    {f0 : Addr} {oc0 kV0 doc0 pm0 cd0 ct0 : Value} {od0 an0 : Option Addr} {sl0 : Array (Option Value)}
    {f1 : Addr} {oc1 kV1 doc1 pm1 cd1 ct1 : Value} {od1 an1 : Option Addr} {sl1 : Array (Option Value)}
    {f2 : Addr} {oc2 kV2 doc2 pm2 cd2 ct2 : Value} {od2 an2 : Option Addr} {sl2 : Array (Option Value)}
    {f3 : Addr} {oc3 kV3 doc3 pm3 cd3 ct3 : Value} {od3 an3 : Option Addr} {sl3 : Array (Option Value)}
    {f4 : Addr} {oc4 kV4 doc4 pm4 cd4 ct4 : Value} {od4 an4 : Option Addr} {sl4 : Array (Option Value)}
    {f5 : Addr} {oc5 kV5 doc5 pm5 cd5 ct5 : Value} {od5 an5 : Option Addr} {sl5 : Array (Option Value)}
    {f6 : Addr} {oc6 kV6 doc6 pm6 cd6 ct6 : Value} {od6 an6 : Option Addr} {sl6 : Array (Option Value)}
    {f7 : Addr} {oc7 kV7 doc7 pm7 cd7 ct7 : Value} {od7 an7 : Option Addr} {sl7 : Array (Option Value)}
    {f8 : Addr} {oc8 kV8 doc8 pm8 cd8 ct8 : Value} {od8 an8 : Option Addr} {sl8 : Array (Option Value)}
    {f9 : Addr} {oc9 kV9 doc9 pm9 cd9 ct9 : Value} {od9 an9 : Option Addr} {sl9 : Array (Option Value)}
    {f10 : Addr} {oc10 kV10 doc10 pm10 cd10 ct10 : Value} {od10 an10 : Option Addr} {sl10 : Array (Option Value)}
    {f11 : Addr} {oc11 kV11 doc11 pm11 cd11 ct11 : Value} {od11 an11 : Option Addr} {sl11 : Array (Option Value)}
    {f12 : Addr} {oc12 kV12 doc12 pm12 cd12 ct12 : Value} {od12 an12 : Option Addr} {sl12 : Array (Option Value)}
    {f13 : Addr} {oc13 kV13 doc13 pm13 cd13 ct13 : Value} {od13 an13 : Option Addr} {sl13 : Array (Option Value)}
    {f14 : Addr} {oc14 kV14 doc14 pm14 cd14 ct14 : Value} {od14 an14 : Option Addr} {sl14 : Array (Option Value)}
    {f15 : Addr} {oc15 kV15 doc15 pm15 cd15 ct15 : Value} {od15 an15 : Option Addr} {sl15 : Array (Option Value)}
    {f16 : Addr} {oc16 kV16 doc16 pm16 cd16 ct16 : Value} {od16 an16 : Option Addr} {sl16 : Array (Option Value)}
    {f17 : Addr} {oc17 kV17 doc17 pm17 cd17 ct17 : Value} {od17 an17 : Option Addr} {sl17 : Array (Option Value)}
    {f18 : Addr} {oc18 kV18 doc18 pm18 cd18 ct18 : Value} {od18 an18 : Option Addr} {sl18 : Array (Option Value)}
    {f19 : Addr} {oc19 kV19 doc19 pm19 cd19 ct19 : Value} {od19 an19 : Option Addr} {sl19 : Array (Option Value)}
    {f20 : Addr} {oc20 kV20 doc20 pm20 cd20 ct20 : Value} {od20 an20 : Option Addr} {sl20 : Array (Option Value)}
    {f21 : Addr} {oc21 kV21 doc21 pm21 cd21 ct21 : Value} {od21 an21 : Option Addr} {sl21 : Array (Option Value)}
    {f22 : Addr} {oc22 kV22 doc22 pm22 cd22 ct22 : Value} {od22 an22 : Option Addr} {sl22 : Array (Option Value)}
    {f23 : Addr} {oc23 kV23 doc23 pm23 cd23 ct23 : Value} {od23 an23 : Option Addr} {sl23 : Array (Option Value)}
    {f24 : Addr} {oc24 kV24 doc24 pm24 cd24 ct24 : Value} {od24 an24 : Option Addr} {sl24 : Array (Option Value)}
    {f25 : Addr} {oc25 kV25 doc25 pm25 cd25 ct25 : Value} {od25 an25 : Option Addr} {sl25 : Array (Option Value)}
    {t_NUMBERS : Tok}
    {t_NO_ROOM : Tok}
    {t_REGISTERS : Tok}
    {t_LEAST_SPAN : Tok}
    {t_MOST_SPAN : Tok}
    {t_MOST_SIZE : Tok}
    {t_GONE : Tok}
    {t_MODES_0 : Tok}
    {t_MODES_1 : Tok}
    {t_MODES_2 : Tok}
    {a_MODES : Addr} {d_MODES : Option Addr} {n_MODES : Nat} {s_MODES : Array (Option Value)}
    {t_PARTS : Tok}
    (n0 : PySem.W.nsIn K mainGlobals "is_whole" = some (some (.ref f0)))
    (l0 : K.lookup f0 = some ⟨oc0, od0, .func (PySem.W.fnOf "is_whole" "is_whole" (defArgs s_is_whole) (defBody s_is_whole) (defScope s_is_whole) .none kV0 doc0 pm0 an0 cd0 ct0), sl0⟩)
    (cd_0 : PySem.W.codeIn K cd0 "is_whole" = true)
    (k0 : PySem.W.keepIn K (.ref f0) = true)
    (n1 : PySem.W.nsIn K mainGlobals "is_within" = some (some (.ref f1)))
    (l1 : K.lookup f1 = some ⟨oc1, od1, .func (PySem.W.fnOf "is_within" "is_within" (defArgs s_is_within) (defBody s_is_within) (defScope s_is_within) .none kV1 doc1 pm1 an1 cd1 ct1), sl1⟩)
    (cd_1 : PySem.W.codeIn K cd1 "is_within" = true)
    (k1 : PySem.W.keepIn K (.ref f1) = true)
    (n2 : PySem.W.nsIn K mainGlobals "is_number" = some (some (.ref f2)))
    (l2 : K.lookup f2 = some ⟨oc2, od2, .func (PySem.W.fnOf "is_number" "is_number" (defArgs s_is_number) (defBody s_is_number) (defScope s_is_number) .none kV2 doc2 pm2 an2 cd2 ct2), sl2⟩)
    (cd_2 : PySem.W.codeIn K cd2 "is_number" = true)
    (k2 : PySem.W.keepIn K (.ref f2) = true)
    (n3 : PySem.W.nsIn K mainGlobals "is_address" = some (some (.ref f3)))
    (l3 : K.lookup f3 = some ⟨oc3, od3, .func (PySem.W.fnOf "is_address" "is_address" (defArgs s_is_address) (defBody s_is_address) (defScope s_is_address) .none kV3 doc3 pm3 an3 cd3 ct3), sl3⟩)
    (cd_3 : PySem.W.codeIn K cd3 "is_address" = true)
    (k3 : PySem.W.keepIn K (.ref f3) = true)
    (n4 : PySem.W.nsIn K mainGlobals "first_state" = some (some (.ref f4)))
    (l4 : K.lookup f4 = some ⟨oc4, od4, .func (PySem.W.fnOf "first_state" "first_state" (defArgs s_first_state) (defBody s_first_state) (defScope s_first_state) .none kV4 doc4 pm4 an4 cd4 ct4), sl4⟩)
    (cd_4 : PySem.W.codeIn K cd4 "first_state" = true)
    (k4 : PySem.W.keepIn K (.ref f4) = true)
    (n5 : PySem.W.nsIn K mainGlobals "end_of" = some (some (.ref f5)))
    (l5 : K.lookup f5 = some ⟨oc5, od5, .func (PySem.W.fnOf "end_of" "end_of" (defArgs s_end_of) (defBody s_end_of) (defScope s_end_of) .none kV5 doc5 pm5 an5 cd5 ct5), sl5⟩)
    (cd_5 : PySem.W.codeIn K cd5 "end_of" = true)
    (k5 : PySem.W.keepIn K (.ref f5) = true)
    (n6 : PySem.W.nsIn K mainGlobals "is_here" = some (some (.ref f6)))
    (l6 : K.lookup f6 = some ⟨oc6, od6, .func (PySem.W.fnOf "is_here" "is_here" (defArgs s_is_here) (defBody s_is_here) (defScope s_is_here) .none kV6 doc6 pm6 an6 cd6 ct6), sl6⟩)
    (cd_6 : PySem.W.codeIn K cd6 "is_here" = true)
    (k6 : PySem.W.keepIn K (.ref f6) = true)
    (n7 : PySem.W.nsIn K mainGlobals "is_held" = some (some (.ref f7)))
    (l7 : K.lookup f7 = some ⟨oc7, od7, .func (PySem.W.fnOf "is_held" "is_held" (defArgs s_is_held) (defBody s_is_held) (defScope s_is_held) .none kV7 doc7 pm7 an7 cd7 ct7), sl7⟩)
    (cd_7 : PySem.W.codeIn K cd7 "is_held" = true)
    (k7 : PySem.W.keepIn K (.ref f7) = true)
    (n8 : PySem.W.nsIn K mainGlobals "are_held" = some (some (.ref f8)))
    (l8 : K.lookup f8 = some ⟨oc8, od8, .func (PySem.W.fnOf "are_held" "are_held" (defArgs s_are_held) (defBody s_are_held) (defScope s_are_held) .none kV8 doc8 pm8 an8 cd8 ct8), sl8⟩)
    (cd_8 : PySem.W.codeIn K cd8 "are_held" = true)
    (k8 : PySem.W.keepIn K (.ref f8) = true)
    (n9 : PySem.W.nsIn K mainGlobals "is_room" = some (some (.ref f9)))
    (l9 : K.lookup f9 = some ⟨oc9, od9, .func (PySem.W.fnOf "is_room" "is_room" (defArgs s_is_room) (defBody s_is_room) (defScope s_is_room) .none kV9 doc9 pm9 an9 cd9 ct9), sl9⟩)
    (cd_9 : PySem.W.codeIn K cd9 "is_room" = true)
    (k9 : PySem.W.keepIn K (.ref f9) = true)
    (n10 : PySem.W.nsIn K mainGlobals "are_apart" = some (some (.ref f10)))
    (l10 : K.lookup f10 = some ⟨oc10, od10, .func (PySem.W.fnOf "are_apart" "are_apart" (defArgs s_are_apart) (defBody s_are_apart) (defScope s_are_apart) .none kV10 doc10 pm10 an10 cd10 ct10), sl10⟩)
    (cd_10 : PySem.W.codeIn K cd10 "are_apart" = true)
    (k10 : PySem.W.keepIn K (.ref f10) = true)
    (n11 : PySem.W.nsIn K mainGlobals "is_of_rooms" = some (some (.ref f11)))
    (l11 : K.lookup f11 = some ⟨oc11, od11, .func (PySem.W.fnOf "is_of_rooms" "is_of_rooms" (defArgs s_is_of_rooms) (defBody s_is_of_rooms) (defScope s_is_of_rooms) .none kV11 doc11 pm11 an11 cd11 ct11), sl11⟩)
    (cd_11 : PySem.W.codeIn K cd11 "is_of_rooms" = true)
    (k11 : PySem.W.keepIn K (.ref f11) = true)
    (n12 : PySem.W.nsIn K mainGlobals "is_state" = some (some (.ref f12)))
    (l12 : K.lookup f12 = some ⟨oc12, od12, .func (PySem.W.fnOf "is_state" "is_state" (defArgs s_is_state) (defBody s_is_state) (defScope s_is_state) .none kV12 doc12 pm12 an12 cd12 ct12), sl12⟩)
    (cd_12 : PySem.W.codeIn K cd12 "is_state" = true)
    (k12 : PySem.W.keepIn K (.ref f12) = true)
    (n13 : PySem.W.nsIn K mainGlobals "right_bases" = some (some (.ref f13)))
    (l13 : K.lookup f13 = some ⟨oc13, od13, .func (PySem.W.fnOf "right_bases" "right_bases" (defArgs s_right_bases) (defBody s_right_bases) (defScope s_right_bases) .none kV13 doc13 pm13 an13 cd13 ct13), sl13⟩)
    (cd_13 : PySem.W.codeIn K cd13 "right_bases" = true)
    (k13 : PySem.W.keepIn K (.ref f13) = true)
    (n14 : PySem.W.nsIn K mainGlobals "_law_deck" = some (some (.ref f14)))
    (l14 : K.lookup f14 = some ⟨oc14, od14, .func (PySem.W.fnOf "_law_deck" "_law_deck" (defArgs s__law_deck) (defBody s__law_deck) (defScope s__law_deck) .none kV14 doc14 pm14 an14 cd14 ct14), sl14⟩)
    (cd_14 : PySem.W.codeIn K cd14 "_law_deck" = true)
    (k14 : PySem.W.keepIn K (.ref f14) = true)
    (n15 : PySem.W.nsIn K mainGlobals "_law_draw" = some (some (.ref f15)))
    (l15 : K.lookup f15 = some ⟨oc15, od15, .func (PySem.W.fnOf "_law_draw" "_law_draw" (defArgs s__law_draw) (defBody s__law_draw) (defScope s__law_draw) .none kV15 doc15 pm15 an15 cd15 ct15), sl15⟩)
    (cd_15 : PySem.W.codeIn K cd15 "_law_draw" = true)
    (k15 : PySem.W.keepIn K (.ref f15) = true)
    (n16 : PySem.W.nsIn K mainGlobals "_law_pick" = some (some (.ref f16)))
    (l16 : K.lookup f16 = some ⟨oc16, od16, .func (PySem.W.fnOf "_law_pick" "_law_pick" (defArgs s__law_pick) (defBody s__law_pick) (defScope s__law_pick) .none kV16 doc16 pm16 an16 cd16 ct16), sl16⟩)
    (cd_16 : PySem.W.codeIn K cd16 "_law_pick" = true)
    (k16 : PySem.W.keepIn K (.ref f16) = true)
    (n17 : PySem.W.nsIn K mainGlobals "_law_number" = some (some (.ref f17)))
    (l17 : K.lookup f17 = some ⟨oc17, od17, .func (PySem.W.fnOf "_law_number" "_law_number" (defArgs s__law_number) (defBody s__law_number) (defScope s__law_number) .none kV17 doc17 pm17 an17 cd17 ct17), sl17⟩)
    (cd_17 : PySem.W.codeIn K cd17 "_law_number" = true)
    (k17 : PySem.W.keepIn K (.ref f17) = true)
    (n18 : PySem.W.nsIn K mainGlobals "_law_any_value" = some (some (.ref f18)))
    (l18 : K.lookup f18 = some ⟨oc18, od18, .func (PySem.W.fnOf "_law_any_value" "_law_any_value" (defArgs s__law_any_value) (defBody s__law_any_value) (defScope s__law_any_value) .none kV18 doc18 pm18 an18 cd18 ct18), sl18⟩)
    (cd_18 : PySem.W.codeIn K cd18 "_law_any_value" = true)
    (k18 : PySem.W.keepIn K (.ref f18) = true)
    (n19 : PySem.W.nsIn K mainGlobals "_law_state" = some (some (.ref f19)))
    (l19 : K.lookup f19 = some ⟨oc19, od19, .func (PySem.W.fnOf "_law_state" "_law_state" (defArgs s__law_state) (defBody s__law_state) (defScope s__law_state) .none kV19 doc19 pm19 an19 cd19 ct19), sl19⟩)
    (cd_19 : PySem.W.codeIn K cd19 "_law_state" = true)
    (k19 : PySem.W.keepIn K (.ref f19) = true)
    (n20 : PySem.W.nsIn K mainGlobals "_law_held_at" = some (some (.ref f20)))
    (l20 : K.lookup f20 = some ⟨oc20, od20, .func (PySem.W.fnOf "_law_held_at" "_law_held_at" (defArgs s__law_held_at) (defBody s__law_held_at) (defScope s__law_held_at) .none kV20 doc20 pm20 an20 cd20 ct20), sl20⟩)
    (cd_20 : PySem.W.codeIn K cd20 "_law_held_at" = true)
    (k20 : PySem.W.keepIn K (.ref f20) = true)
    (n21 : PySem.W.nsIn K mainGlobals "_law_gone_at" = some (some (.ref f21)))
    (l21 : K.lookup f21 = some ⟨oc21, od21, .func (PySem.W.fnOf "_law_gone_at" "_law_gone_at" (defArgs s__law_gone_at) (defBody s__law_gone_at) (defScope s__law_gone_at) .none kV21 doc21 pm21 an21 cd21 ct21), sl21⟩)
    (cd_21 : PySem.W.codeIn K cd21 "_law_gone_at" = true)
    (k21 : PySem.W.keepIn K (.ref f21) = true)
    (n22 : PySem.W.nsIn K mainGlobals "_law_is_right" = some (some (.ref f22)))
    (l22 : K.lookup f22 = some ⟨oc22, od22, .func (PySem.W.fnOf "_law_is_right" "_law_is_right" (defArgs s__law_is_right) (defBody s__law_is_right) (defScope s__law_is_right) .none kV22 doc22 pm22 an22 cd22 ct22), sl22⟩)
    (cd_22 : PySem.W.codeIn K cd22 "_law_is_right" = true)
    (k22 : PySem.W.keepIn K (.ref f22) = true)
    (n23 : PySem.W.nsIn K mainGlobals "_law_behind_right" = some (some (.ref f23)))
    (l23 : K.lookup f23 = some ⟨oc23, od23, .func (PySem.W.fnOf "_law_behind_right" "_law_behind_right" (defArgs s__law_behind_right) (defBody s__law_behind_right) (defScope s__law_behind_right) .none kV23 doc23 pm23 an23 cd23 ct23), sl23⟩)
    (cd_23 : PySem.W.codeIn K cd23 "_law_behind_right" = true)
    (k23 : PySem.W.keepIn K (.ref f23) = true)
    (n24 : PySem.W.nsIn K mainGlobals "_law_wider_right" = some (some (.ref f24)))
    (l24 : K.lookup f24 = some ⟨oc24, od24, .func (PySem.W.fnOf "_law_wider_right" "_law_wider_right" (defArgs s__law_wider_right) (defBody s__law_wider_right) (defScope s__law_wider_right) .none kV24 doc24 pm24 an24 cd24 ct24), sl24⟩)
    (cd_24 : PySem.W.codeIn K cd24 "_law_wider_right" = true)
    (k24 : PySem.W.keepIn K (.ref f24) = true)
    (n25 : PySem.W.nsIn K mainGlobals "law" = some (some (.ref f25)))
    (l25 : K.lookup f25 = some ⟨oc25, od25, .func (PySem.W.fnOf "law" "law" (defArgs s_law) (defBody s_law) (defScope s_law) .none kV25 doc25 pm25 an25 cd25 ct25), sl25⟩)
    (cd_25 : PySem.W.codeIn K cd25 "law" = true)
    (k25 : PySem.W.keepIn K (.ref f25) = true)
    (b_all : PySem.W.nsIn K mainGlobals "all" = some none)
    (b_bool : PySem.W.nsIn K mainGlobals "bool" = some none)
    (b_int : PySem.W.nsIn K mainGlobals "int" = some none)
    (b_isinstance : PySem.W.nsIn K mainGlobals "isinstance" = some none)
    (b_len : PySem.W.nsIn K mainGlobals "len" = some none)
    (b_list : PySem.W.nsIn K mainGlobals "list" = some none)
    (b_range : PySem.W.nsIn K mainGlobals "range" = some none)
    (b_repr : PySem.W.nsIn K mainGlobals "repr" = some none)
    (b_reversed : PySem.W.nsIn K mainGlobals "reversed" = some none)
    (b_sorted : PySem.W.nsIn K mainGlobals "sorted" = some none)
    (b_str : PySem.W.nsIn K mainGlobals "str" = some none)
    (b_sum : PySem.W.nsIn K mainGlobals "sum" = some none)
    (b_tuple : PySem.W.nsIn K mainGlobals "tuple" = some none)
    (b_zip : PySem.W.nsIn K mainGlobals "zip" = some none)
    (c_NUMBERS : PySem.W.nsIn K mainGlobals "NUMBERS" = some (some (.int (1000) t_NUMBERS)))
    (c_NO_ROOM : PySem.W.nsIn K mainGlobals "NO_ROOM" = some (some (.int ((-1)) t_NO_ROOM)))
    (c_REGISTERS : PySem.W.nsIn K mainGlobals "REGISTERS" = some (some (.str "abcdefgh" t_REGISTERS)))
    (c_LEAST_SPAN : PySem.W.nsIn K mainGlobals "LEAST_SPAN" = some (some (.int (2) t_LEAST_SPAN)))
    (c_MOST_SPAN : PySem.W.nsIn K mainGlobals "MOST_SPAN" = some (some (.int (999) t_MOST_SPAN)))
    (c_MOST_SIZE : PySem.W.nsIn K mainGlobals "MOST_SIZE" = some (some (.int (80) t_MOST_SIZE)))
    (c_GONE : PySem.W.nsIn K mainGlobals "GONE" = some (some (.str "gone" t_GONE)))
    (c_MODES : PySem.W.nsIn K mainGlobals "MODES" = some (some (.ref a_MODES)))
    (u_MODES : K.lookup a_MODES = some ⟨.type "tuple", d_MODES, .seq #[.str "held" t_MODES_0, .str "shown" t_MODES_1, .str "gone" t_MODES_2] n_MODES, s_MODES⟩)
    (c_PARTS : PySem.W.nsIn K mainGlobals "PARTS" = some (some (.int (4) t_PARTS)))
    : ∃ fd : FuncData, (∀ (s : Shared) (u : Value), BindsTo s fd ⟨[u], []⟩ [("_law_script", u)]) ∧ ∀ base : Heap, K.In base → base.Ns mainGlobals mg → FnG P w K mg base 10 fa fd ["_law_script"] m_law := by
  have e := hfa.symm.trans (PySem.W.mg_of X G n25)
  have e0 : fa = f25 := by cases e; rfl
  clear e
  rw [e0]
  have T : ∃ T : Txt K mg, T.law.a = f25 ∧ T.law.fd = PySem.W.fnOf "law" "law" (defArgs s_law) (defBody s_law) (defScope s_law) .none kV25 doc25 pm25 an25 cd25 ct25 := ⟨{
    is_whole := tf_mk X G (fun _ _ _ _ _ _ us hl => match us, hl with | [_], _ => rfl) l0 n0 cd_0 k0,
    is_within := tf_mk X G (fun _ _ _ _ _ _ us hl => match us, hl with | [_, _, _], _ => rfl) l1 n1 cd_1 k1,
    is_number := tf_mk X G (fun _ _ _ _ _ _ us hl => match us, hl with | [_], _ => rfl) l2 n2 cd_2 k2,
    is_address := tf_mk X G (fun _ _ _ _ _ _ us hl => match us, hl with | [_], _ => rfl) l3 n3 cd_3 k3,
    first_state := tf_mk X G (fun _ _ _ _ _ _ us hl => match us, hl with | [_], _ => rfl) l4 n4 cd_4 k4,
    end_of := tf_mk X G (fun _ _ _ _ _ _ us hl => match us, hl with | [_], _ => rfl) l5 n5 cd_5 k5,
    is_here := tf_mk X G (fun _ _ _ _ _ _ us hl => match us, hl with | [_], _ => rfl) l6 n6 cd_6 k6,
    is_held := tf_mk X G (fun _ _ _ _ _ _ us hl => match us, hl with | [_], _ => rfl) l7 n7 cd_7 k7,
    are_held := tf_mk X G (fun _ _ _ _ _ _ us hl => match us, hl with | [_, _], _ => rfl) l8 n8 cd_8 k8,
    is_room := tf_mk X G (fun _ _ _ _ _ _ us hl => match us, hl with | [_, _], _ => rfl) l9 n9 cd_9 k9,
    are_apart := tf_mk X G (fun _ _ _ _ _ _ us hl => match us, hl with | [_], _ => rfl) l10 n10 cd_10 k10,
    is_of_rooms := tf_mk X G (fun _ _ _ _ _ _ us hl => match us, hl with | [_, _], _ => rfl) l11 n11 cd_11 k11,
    is_state := tf_mk X G (fun _ _ _ _ _ _ us hl => match us, hl with | [_], _ => rfl) l12 n12 cd_12 k12,
    right_bases := tf_mk X G (fun _ _ _ _ _ _ us hl => match us, hl with | [_, _], _ => rfl) l13 n13 cd_13 k13,
    _law_deck := tf_mk X G (fun _ _ _ _ _ _ us hl => match us, hl with | [_], _ => rfl) l14 n14 cd_14 k14,
    _law_draw := tf_mk X G (fun _ _ _ _ _ _ us hl => match us, hl with | [_, _], _ => rfl) l15 n15 cd_15 k15,
    _law_pick := tf_mk X G (fun _ _ _ _ _ _ us hl => match us, hl with | [_, _], _ => rfl) l16 n16 cd_16 k16,
    _law_number := tf_mk X G (fun _ _ _ _ _ _ us hl => match us, hl with | [_], _ => rfl) l17 n17 cd_17 k17,
    _law_any_value := tf_mk X G (fun _ _ _ _ _ _ us hl => match us, hl with | [_, _], _ => rfl) l18 n18 cd_18 k18,
    _law_state := tf_mk X G (fun _ _ _ _ _ _ us hl => match us, hl with | [_, _], _ => rfl) l19 n19 cd_19 k19,
    _law_held_at := tf_mk X G (fun _ _ _ _ _ _ us hl => match us, hl with | [_, _, _], _ => rfl) l20 n20 cd_20 k20,
    _law_gone_at := tf_mk X G (fun _ _ _ _ _ _ us hl => match us, hl with | [_, _], _ => rfl) l21 n21 cd_21 k21,
    _law_is_right := tf_mk X G (fun _ _ _ _ _ _ us hl => match us, hl with | [_, _], _ => rfl) l22 n22 cd_22 k22,
    _law_behind_right := tf_mk X G (fun _ _ _ _ _ _ us hl => match us, hl with | [_, _, _, _], _ => rfl) l23 n23 cd_23 k23,
    _law_wider_right := tf_mk X G (fun _ _ _ _ _ _ us hl => match us, hl with | [_, _], _ => rfl) l24 n24 cd_24 k24,
    law := tf_mk X G (fun _ _ _ _ _ _ us hl => match us, hl with | [_], _ => rfl) l25 n25 cd_25 k25,
    n_all := PySem.W.mg_none_of X G b_all,
    n_bool := PySem.W.mg_none_of X G b_bool,
    n_int := PySem.W.mg_none_of X G b_int,
    n_isinstance := PySem.W.mg_none_of X G b_isinstance,
    n_len := PySem.W.mg_none_of X G b_len,
    n_list := PySem.W.mg_none_of X G b_list,
    n_range := PySem.W.mg_none_of X G b_range,
    n_repr := PySem.W.mg_none_of X G b_repr,
    n_reversed := PySem.W.mg_none_of X G b_reversed,
    n_sorted := PySem.W.mg_none_of X G b_sorted,
    n_str := PySem.W.mg_none_of X G b_str,
    n_sum := PySem.W.mg_none_of X G b_sum,
    n_tuple := PySem.W.mg_none_of X G b_tuple,
    n_zip := PySem.W.mg_none_of X G b_zip,
    c_NUMBERS := ⟨_, PySem.W.mg_of X G c_NUMBERS, cr_int⟩,
    c_NO_ROOM := ⟨_, PySem.W.mg_of X G c_NO_ROOM, cr_int⟩,
    c_REGISTERS := ⟨_, PySem.W.mg_of X G c_REGISTERS, cr_str⟩,
    c_LEAST_SPAN := ⟨_, PySem.W.mg_of X G c_LEAST_SPAN, cr_int⟩,
    c_MOST_SPAN := ⟨_, PySem.W.mg_of X G c_MOST_SPAN, cr_int⟩,
    c_MOST_SIZE := ⟨_, PySem.W.mg_of X G c_MOST_SIZE, cr_int⟩,
    c_GONE := ⟨_, PySem.W.mg_of X G c_GONE, cr_str⟩,
    c_MODES := ⟨_, PySem.W.mg_of X G c_MODES, (cr_tup u_MODES rfl rfl (Nat.le_of_ble_eq_true rfl) (.cons cr_str (.cons cr_str (.cons cr_str CRs.nil))))⟩,
    c_PARTS := ⟨_, PySem.W.mg_of X G c_PARTS, cr_int⟩ }, rfl, rfl⟩
  obtain ⟨T, e1, e2⟩ := T
  refine ⟨PySem.W.fnOf "law" "law" (defArgs s_law) (defBody s_law) (defScope s_law) .none kV25 doc25 pm25 an25 cd25 ct25, fun s u => .of_eq rfl, fun base _ _ => ?_⟩
  have := ok_law (P := P) (w := w) (base := base) T
  rw [e1, e2] at this
  exact this
end HL

set_option exponentiation.threshold 7000
namespace HL
open PySem PySem.Spec PyProof.Rows L2 HA HV
abbrev KK : Dks := dksB
def pb_is_whole : VS := (vRet (vEAnd (v1 (vaCons (vVar 0) (vaCons (vC (.cst (.ty "int"))) vaNil)) vIsi) (vENot (v1 (vaCons (vVar 0) (vaCons (vC (.cst (.ty "bool"))) vaNil)) vIsi))))
def p_is_whole : List U → ExK → (U → Prop) → Prop := vFn 1 1 pb_is_whole
theorem l_is_whole : LF KK 0 m_is_whole p_is_whole := (lf_fn (mb := b_is_whole) (pb := pb_is_whole)
    (ls_ret (le_eand (le_1 (le_acons (le_var 0) (le_acons (le_c _) le_anil)) lo_isi) (le_enot (le_1 (le_acons (le_var 0) (le_acons (le_c _) le_anil)) lo_isi))))).weak (by decide +kernel)
def pb_is_within : VS := (vRet (vEAnd (vCal (vaCons (vVar 0) vaNil) p_is_whole) (vB (vChain (vVar 1) (vVar 0) (vVar 2) vLe vLe))))
def p_is_within : List U → ExK → (U → Prop) → Prop := vFn 3 3 pb_is_within
theorem l_is_within : LF KK 0 m_is_within p_is_within := (lf_fn (mb := b_is_within) (pb := pb_is_within)
    (ls_ret (le_eand (le_1 (le_acons (le_var 0) le_anil) l_is_whole) (le_B (le_chain (le_var 1) (le_var 0) (le_var 2) lo_le lo_le))))).weak (by decide +kernel)
def pb_is_number : VS := (vRet (vCal (vaCons (vVar 0) (vaCons (vC (.int 0)) (vaCons (v2 (vC c_NUMBERS) (vC (.int 1)) vSub) vaNil))) p_is_within))
def p_is_number : List U → ExK → (U → Prop) → Prop := vFn 1 1 pb_is_number
theorem l_is_number : LF KK 0 m_is_number p_is_number := (lf_fn (mb := b_is_number) (pb := pb_is_number)
    (ls_ret (le_1 (le_acons (le_var 0) (le_acons (le_c _) (le_acons (le_2 (le_c _) (le_c _) lo_sub) le_anil))) l_is_within))).weak (by decide +kernel)
def pb_is_address : VS := (vSeq (vIfS (vOr (vNot (v1 (v1 (vaCons (vVar 0) (vaCons (vC (.cst (.ty "tuple"))) vaNil)) vIsi) vTruth)) (v2 (v1 (vaCons (vVar 0) vaNil) vLenA) (vC (.int 2)) vNe)) (vRet (vC (.bl false))) vSkip) (vSeq (vAsg [] (vVar 0) (tTup 2 (tCons (tSet 1) (tCons (tSet 2) tNil)))) (vRet (vEAnd (vCal (vaCons (vVar 1) vaNil) p_is_whole) (vEAnd (vB (v2 (vVar 1) (vC c_NO_ROOM) vGe)) (vCal (vaCons (vVar 2) vaNil) p_is_number))))))
def p_is_address : List U → ExK → (U → Prop) → Prop := vFn 3 1 pb_is_address
theorem l_is_address : LF KK 0 m_is_address p_is_address := (lf_fn (mb := b_is_address) (pb := pb_is_address)
    (ls_seq (own1 := []) (ls_if (le_or (le_not (le_1 (le_1 (le_acons (le_var 0) (le_acons (le_c _) le_anil)) lo_isi) lo_truth)) (le_2 (le_1 (le_acons (le_var 0) le_anil) lo_len) (le_c _) lo_ne)) (ls_ret (le_c _)) ls_skip)
    (ls_seq (own1 := []) (ls_asg (le_var 0) (lt_tup (lt_cons (lt_set 1) (lt_cons (lt_set 2) lt_nil))))
    (ls_ret (le_eand (le_1 (le_acons (le_var 1) le_anil) l_is_whole) (le_eand (le_B (le_2 (le_var 1) (le_c _) lo_ge)) (le_1 (le_acons (le_var 2) le_anil) l_is_number))))))).weak (by decide +kernel)
def pb_first_state : VS := (vRet (vTup (vaCons (vVar 0) (vaCons (vTup vaNil) (vaCons (v2 (vTup (vaCons (vC (.non)) vaNil)) (v1 (vaCons (vC c_REGISTERS) vaNil) vLenA) vMul) (vaCons (vTup vaNil) vaNil))))))
def p_first_state : List U → ExK → (U → Prop) → Prop := vFn 1 1 pb_first_state
theorem l_first_state : LF KK 0 m_first_state p_first_state := (lf_fn (mb := b_first_state) (pb := pb_first_state)
    (ls_ret (le_tup (le_acons (le_var 0) (le_acons (le_tup le_anil) (le_acons (le_2 (le_tup (le_acons (le_c _) le_anil)) (le_1 (le_acons (le_c _) le_anil) lo_len) lo_mulT) (le_acons (le_tup le_anil) le_anil))))))).weak (by decide +kernel)
def pb_end_of : VS := (vSeq (vAsg [] (vVar 0) (tStar 2 (tCons (tSet 1) (tCons (tSet 2) (tCons (tSet 3) tNil))))) (vRet (v2 (vVar 1) (vVar 2) vAddA)))
def p_end_of : List U → ExK → (U → Prop) → Prop := vFn 4 1 pb_end_of
theorem l_end_of : LF KK 0 m_end_of p_end_of := (lf_fn (mb := b_end_of) (pb := pb_end_of)
    (ls_seq (own1 := []) (ls_asgX (le_var 0) (lt_star (lt_cons (lt_set 1) (lt_cons (lt_set 2) (lt_cons (lt_set 3) lt_nil)))))
    (ls_ret (le_2 (le_var 1) (le_var 2) lo_addA)))).weak (by decide +kernel)
def pb_is_here : VS := (vRet (vB (v2 (v2 (vVar 0) (vC (.int 2)) vIx) (vC c_GONE) vNe)))
def p_is_here : List U → ExK → (U → Prop) → Prop := vFn 1 1 pb_is_here
theorem l_is_here : LF KK 0 m_is_here p_is_here := (lf_fn (mb := b_is_here) (pb := pb_is_here)
    (ls_ret (le_B (le_2 (le_2 (le_var 0) (le_c _) lo_ix) (le_c _) lo_ne)))).weak (by decide +kernel)
def pb_is_held : VS := (vRet (vEOr (vB (v2 (vVar 0) (vC (.non)) vIs)) (vEOr (vCal (vaCons (vVar 0) vaNil) p_is_number) (vCal (vaCons (vVar 0) vaNil) p_is_address))))
def p_is_held : List U → ExK → (U → Prop) → Prop := vFn 1 1 pb_is_held
theorem l_is_held : LF KK 0 m_is_held p_is_held := (lf_fn (mb := b_is_held) (pb := pb_is_held)
    (ls_ret (le_eor (le_B (le_2 (le_var 0) (le_c _) lo_is)) (le_eor (le_1 (le_acons (le_var 0) le_anil) l_is_number) (le_1 (le_acons (le_var 0) le_anil) l_is_address))))).weak (by decide +kernel)
def pb_are_held : VS := (vRet (vEAnd (v1 (vaCons (vVar 0) (vaCons (vC (.cst (.ty "tuple"))) vaNil)) vIsi) (vEAnd (vB (v2 (v1 (vaCons (vVar 0) vaNil) vLenA) (vVar 1) vEq)) (v1 (vLc (v1 (vVar 0) vSeqOf) (tSet 2) vYes (vCal (vaCons (vVar 2) vaNil) p_is_held) [2]) vAll))))
def p_are_held : List U → ExK → (U → Prop) → Prop := vFn 3 2 pb_are_held
theorem l_are_held : LF KK 0 m_are_held p_are_held := (lf_fn (mb := b_are_held) (pb := pb_are_held)
    (ls_ret (le_eand (le_1 (le_acons (le_var 0) (le_acons (le_c _) le_anil)) lo_isi) (le_eand (le_B (le_2 (le_1 (le_acons (le_var 0) le_anil) lo_len) (le_var 1) lo_eq)) (le_1 (le_lc (le_1 (le_var 0) lo_ival) (lt_set 2) le_yes (le_1 (le_acons (le_var 2) le_anil) l_is_held)) lo_all))))).weak (by decide +kernel)
def pb_is_room : VS := (vSeq (vIfS (vOr (vNot (v1 (v1 (vaCons (vVar 0) (vaCons (vC (.cst (.ty "tuple"))) vaNil)) vIsi) vTruth)) (v2 (v1 (vaCons (vVar 0) vaNil) vLenA) (vC c_PARTS) vNe)) (vRet (vC (.bl false))) vSkip) (vSeq (vAsg [] (vVar 0) (tTup 4 (tCons (tSet 2) (tCons (tSet 3) (tCons (tSet 4) (tCons (tSet 5) tNil)))))) (vSeq (vIfS (vOr (vNot (v1 (vCal (vaCons (vVar 3) (vaCons (vC (.int 1)) (vaCons (vC c_MOST_SIZE) vaNil))) p_is_within) vTruth)) (vNot (v1 (vCal (vaCons (vVar 2) (vaCons (vC (.int 1)) (vaCons (v2 (vVar 1) (vVar 3) vSub) vaNil))) p_is_within) vTruth))) (vRet (vC (.bl false))) vSkip) (vSeq (vIfS (vOr (vNot (v1 (v1 (vaCons (vVar 4) (vaCons (vC (.cst (.ty "str"))) vaNil)) vIsi) vTruth)) (v2 (vVar 4) (vC c_MODES) vNotIn)) (vRet (vC (.bl false))) vSkip) (vRet (vCal (vaCons (vVar 5) (vaCons (vIf (v2 (vVar 4) (vC c_GONE) vNe) (vVar 3) (vC (.int 0))) vaNil)) p_are_held))))))
def p_is_room : List U → ExK → (U → Prop) → Prop := vFn 6 2 pb_is_room
theorem l_is_room : LF KK 0 m_is_room p_is_room := (lf_fn (mb := b_is_room) (pb := pb_is_room)
    (ls_seq (own1 := []) (ls_if (le_or (le_not (le_1 (le_1 (le_acons (le_var 0) (le_acons (le_c _) le_anil)) lo_isi) lo_truth)) (le_2 (le_1 (le_acons (le_var 0) le_anil) lo_len) (le_c _) lo_ne)) (ls_ret (le_c _)) ls_skip)
    (ls_seq (own1 := []) (ls_asg (le_var 0) (lt_tup (lt_cons (lt_set 2) (lt_cons (lt_set 3) (lt_cons (lt_set 4) (lt_cons (lt_set 5) lt_nil))))))
    (ls_seq (own1 := []) (ls_if (le_or (le_not (le_1 (le_1 (le_acons (le_var 3) (le_acons (le_c _) (le_acons (le_c _) le_anil))) l_is_within) lo_truth)) (le_not (le_1 (le_1 (le_acons (le_var 2) (le_acons (le_c _) (le_acons (le_2 (le_var 1) (le_var 3) lo_sub) le_anil))) l_is_within) lo_truth))) (ls_ret (le_c _)) ls_skip)
    (ls_seq (own1 := []) (ls_if (le_or (le_not (le_1 (le_1 (le_acons (le_var 4) (le_acons (le_c _) le_anil)) lo_isi) lo_truth)) (le_2 (le_var 4) (le_c _) lo_notIn)) (ls_ret (le_c _)) ls_skip)
    (ls_ret (le_1 (le_acons (le_var 5) (le_acons (le_if (le_2 (le_var 4) (le_c _) lo_ne) (le_var 3) (le_c _)) le_anil)) l_are_held))))))).weak (by decide +kernel)
def pb_are_apart : VS := (vSeq (vAsg [] (vNew (v1 (vLc (v1 (vVar 0) vSeqOf) (tSet 2) (v1 (vCal (vaCons (vVar 2) vaNil) p_is_here) vTruth) (vTup (vaCons (v2 (vVar 2) (vC (.int 0)) vIx) (vaCons (vCal (vaCons (vVar 2) vaNil) p_end_of) vaNil))) [2]) vSort)) (tSet 1)) (vRet (v1 (vLc (v2 (vNew (v3 (vVar 1) (vPart none) (vPart (some (v1 (vC (.int 1)) vNeg))) vLCut)) (vNew (v3 (vVar 1) (vPart (some (vC (.int 1)))) (vPart none) vLCut)) (vZip true)) (tTup 2 (tCons (tSet 3) (tCons (tSet 4) tNil))) vYes (vB (v2 (v2 (vVar 3) (vC (.int 1)) vIx) (v2 (vVar 4) (vC (.int 0)) vIx) vLe)) [3, 4]) vAll)))
def p_are_apart : List U → ExK → (U → Prop) → Prop := vFn 5 1 pb_are_apart
theorem l_are_apart : LF KK 0 m_are_apart p_are_apart := (lf_fn (mb := b_are_apart) (pb := pb_are_apart)
    (ls_seq (own1 := []) (ls_asg (le_new (le_1 (le_lc (le_1 (le_var 0) lo_ival) (lt_set 2) (le_1 (le_1 (le_acons (le_var 2) le_anil) l_is_here) lo_truth) (le_tup (le_acons (le_2 (le_var 2) (le_c _) lo_ix) (le_acons (le_1 (le_acons (le_var 2) le_anil) l_end_of) le_anil)))) lo_sort)) (lt_set 1))
    (ls_ret (le_1 (le_lc (le_2 (le_new (le_3 (le_var 1) le_pnone (le_psome (le_1 (le_c _) lo_neg)) lo_lcut)) (le_new (le_3 (le_var 1) (le_psome (le_c _)) le_pnone lo_lcut)) (lo_zip true)) (lt_tup (lt_cons (lt_set 3) (lt_cons (lt_set 4) lt_nil))) le_yes (le_B (le_2 (le_2 (le_var 3) (le_c _) lo_ix) (le_2 (le_var 4) (le_c _) lo_ix) lo_le))) lo_all)))).weak (by decide +kernel)
def pb_is_of_rooms : VS := (vSeq (vIfS (vNot (v1 (v1 (vaCons (vVar 1) (vaCons (vC (.cst (.ty "tuple"))) vaNil)) vIsi) vTruth)) (vRet (vC (.bl true))) vSkip) (vSeq (vAsg [] (vVar 1) (tTup 2 (tCons (tSet 2) (tCons (tSet 3) tNil)))) (vSeq (vIfS (v2 (vVar 2) (v1 (vC (.int 1)) vNeg) vEq) (vRet (vC (.bl true))) vSkip) (vRet (vEAnd (vB (v2 (vVar 2) (v1 (vaCons (vVar 0) vaNil) vLenA) vLt)) (vB (vChain (v2 (v2 (vVar 0) (vVar 2) vIx) (vC (.int 0)) vIx) (vVar 3) (vCal (vaCons (v2 (vVar 0) (vVar 2) vIx) vaNil) p_end_of) vLe vLe)))))))
def p_is_of_rooms : List U → ExK → (U → Prop) → Prop := vFn 4 2 pb_is_of_rooms
theorem l_is_of_rooms : LF KK 0 m_is_of_rooms p_is_of_rooms := (lf_fn (mb := b_is_of_rooms) (pb := pb_is_of_rooms)
    (ls_seq (own1 := []) (ls_if (le_not (le_1 (le_1 (le_acons (le_var 1) (le_acons (le_c _) le_anil)) lo_isi) lo_truth)) (ls_ret (le_c _)) ls_skip)
    (ls_seq (own1 := []) (ls_asg (le_var 1) (lt_tup (lt_cons (lt_set 2) (lt_cons (lt_set 3) lt_nil))))
    (ls_seq (own1 := []) (ls_if (le_2 (le_var 2) (le_1 (le_c _) lo_neg) lo_eq) (ls_ret (le_c _)) ls_skip)
    (ls_ret (le_eand (le_B (le_2 (le_var 2) (le_1 (le_acons (le_var 0) le_anil) lo_len) lo_lt)) (le_B (le_chain (le_2 (le_2 (le_var 0) (le_var 2) lo_ix) (le_c _) lo_ix) (le_var 3) (le_1 (le_acons (le_2 (le_var 0) (le_var 2) lo_ix) le_anil) l_end_of) lo_le lo_le)))))))).weak (by decide +kernel)
def pb_is_state : VS := (vSeq (vIfS (vOr (vNot (v1 (v1 (vaCons (vVar 0) (vaCons (vC (.cst (.ty "tuple"))) vaNil)) vIsi) vTruth)) (v2 (v1 (vaCons (vVar 0) vaNil) vLenA) (vC c_PARTS) vNe)) (vRet (vC (.bl false))) vSkip) (vSeq (vAsg [] (vVar 0) (tTup 4 (tCons (tSet 2) (tCons (tSet 3) (tCons (tSet 4) (tCons (tSet 5) tNil)))))) (vSeq (vIfS (vOr (vNot (v1 (vCal (vaCons (vVar 2) (vaCons (vC c_LEAST_SPAN) (vaCons (vC c_MOST_SPAN) vaNil))) p_is_within) vTruth)) (vOr (vNot (v1 (v1 (vaCons (vVar 3) (vaCons (vC (.cst (.ty "tuple"))) vaNil)) vIsi) vTruth)) (vNot (v1 (v1 (vaCons (vVar 5) (vaCons (vC (.cst (.ty "tuple"))) vaNil)) vIsi) vTruth)))) (vRet (vC (.bl false))) vSkip) (vSeq (vIfS (vOr (vNot (v1 (v1 (vLc (v1 (vVar 3) vSeqOf) (tSet 6) vYes (vCal (vaCons (vVar 6) (vaCons (vVar 2) vaNil)) p_is_room) [6]) vAll) vTruth)) (vNot (v1 (vCal (vaCons (vVar 3) vaNil) p_are_apart) vTruth))) (vRet (vC (.bl false))) vSkip) (vSeq (vIfS (vOr (vNot (v1 (vCal (vaCons (vVar 4) (vaCons (v1 (vaCons (vC c_REGISTERS) vaNil) vLenA) vaNil)) p_are_held) vTruth)) (vNot (v1 (v1 (vLc (v1 (vVar 5) vSeqOf) (tSet 8) vYes (vCal (vaCons (vVar 8) vaNil) p_is_number) [8]) vAll) vTruth))) (vRet (vC (.bl false))) vSkip) (vSeq (vAsg [] (vNew (v2 (v1 (vLc2 (v1 (vVar 3) vSeqOf) (tSet 6) vYes (v1 (v2 (vVar 6) (vC (.int 3)) vIx) vSeqOf) (tSet 7) vYes (vVar 7) [6, 7] [7]) vListOf) (v1 (v1 (v1 (vVar 4) vSeqOf) vId) vId) vCat)) (tSet 1)) (vRet (v1 (vLc (v1 (vVar 1) vSeqOf) (tSet 7) vYes (vCal (vaCons (vVar 3) (vaCons (vVar 7) vaNil)) p_is_of_rooms) [7]) vAll))))))))
def p_is_state : List U → ExK → (U → Prop) → Prop := vFn 9 1 pb_is_state
theorem l_is_state : LF KK 0 m_is_state p_is_state := (lf_fn (mb := b_is_state) (pb := pb_is_state)
    (ls_seq (own1 := []) (ls_if (le_or (le_not (le_1 (le_1 (le_acons (le_var 0) (le_acons (le_c _) le_anil)) lo_isi) lo_truth)) (le_2 (le_1 (le_acons (le_var 0) le_anil) lo_len) (le_c _) lo_ne)) (ls_ret (le_c _)) ls_skip)
    (ls_seq (own1 := []) (ls_asg (le_var 0) (lt_tup (lt_cons (lt_set 2) (lt_cons (lt_set 3) (lt_cons (lt_set 4) (lt_cons (lt_set 5) lt_nil))))))
    (ls_seq (own1 := []) (ls_if (le_or (le_not (le_1 (le_1 (le_acons (le_var 2) (le_acons (le_c _) (le_acons (le_c _) le_anil))) l_is_within) lo_truth)) (le_or (le_not (le_1 (le_1 (le_acons (le_var 3) (le_acons (le_c _) le_anil)) lo_isi) lo_truth)) (le_not (le_1 (le_1 (le_acons (le_var 5) (le_acons (le_c _) le_anil)) lo_isi) lo_truth)))) (ls_ret (le_c _)) ls_skip)
    (ls_seq (own1 := []) (ls_if (le_or (le_not (le_1 (le_1 (le_lc (le_1 (le_var 3) lo_ival) (lt_set 6) le_yes (le_1 (le_acons (le_var 6) (le_acons (le_var 2) le_anil)) l_is_room)) lo_all) lo_truth)) (le_not (le_1 (le_1 (le_acons (le_var 3) le_anil) l_are_apart) lo_truth))) (ls_ret (le_c _)) ls_skip)
    (ls_seq (own1 := []) (ls_if (le_or (le_not (le_1 (le_1 (le_acons (le_var 4) (le_acons (le_1 (le_acons (le_c _) le_anil) lo_len) le_anil)) l_are_held) lo_truth)) (le_not (le_1 (le_1 (le_lc (le_1 (le_var 5) lo_ival) (lt_set 8) le_yes (le_1 (le_acons (le_var 8) le_anil) l_is_number)) lo_all) lo_truth))) (ls_ret (le_c _)) ls_skip)
    (ls_seq (own1 := []) (ls_asg (le_new (le_2 (le_tour (ln_le (ln_lc2 (le_1 (le_var 3) lo_ival) (lt_set 6) le_yes (le_1 (le_2 (le_var 6) (le_c _) lo_ix) lo_ival) (lt_set 7) le_yes (le_var 7)))) (le_tnew (le_1 (le_1 (le_var 4) lo_seqOf) lo_id)) lo_cat)) (lt_set 1))
    (ls_ret (le_1 (le_lc (le_1 (le_var 1) lo_ival) (lt_set 7) le_yes (le_1 (le_acons (le_var 3) (le_acons (le_var 7) le_anil)) l_is_of_rooms)) lo_all))))))))).weak (by decide +kernel)
def pb_right_bases : VS := (vSeq (vAsg [] (vVar 0) (tStar 2 (tCons (tSet 5) (tCons (tSet 6) (tCons (tSet 7) tNil))))) (vSeq (vAsg [] (vNew (vLc (v1 (vVar 6) vSeqOf) (tSet 8) (v1 (vCal (vaCons (vVar 8) vaNil) p_is_here) vTruth) (vVar 8) [8])) (tSet 2)) (vSeq (vAsgN [] (vNew (vLst vaNil)) 3) (vSeq (vFor [3] (v2 (vC (.int 1)) (v2 (v2 (vVar 5) (vVar 1) vSub) (vC (.int 1)) vAdd) vIR2) (tSet 4) (vIfS (v1 (v1 (vLc (v1 (vVar 2) vSeqOf) (tSet 8) vYes (vEOr (vB (v2 (vCal (vaCons (vVar 8) vaNil) p_end_of) (vVar 4) vLe)) (vB (v2 (v2 (vVar 4) (vVar 1) vAdd) (v2 (vVar 8) (vC (.int 0)) vIx) vLe))) [8]) vAll) vTruth) (vMtS [3] 3 (vaCons (vVar 4) vaNil) vAppend) vSkip)) (vRet (v1 (v1 (vVar 3) vSeqOf) vTupOf))))))
def p_right_bases : List U → ExK → (U → Prop) → Prop := vFn 9 2 pb_right_bases
theorem l_right_bases : LF KK 0 m_right_bases p_right_bases := (lf_fn (mb := b_right_bases) (pb := pb_right_bases)
    (ls_seq (own1 := []) (ls_asgX (le_var 0) (lt_star (lt_cons (lt_set 5) (lt_cons (lt_set 6) (lt_cons (lt_set 7) lt_nil)))))
    (ls_seq (own1 := []) (ls_asg (le_new (le_lc (le_1 (le_var 6) lo_ival) (lt_set 8) (le_1 (le_1 (le_acons (le_var 8) le_anil) l_is_here) lo_truth) (le_var 8))) (lt_set 2))
    (ls_seq (own1 := [3]) (ls_new (own' := [3]) (ln_new (le_lst le_anil)))
    (ls_seq (own1 := [3]) (ls_for (le_2 (le_c _) (le_2 (le_2 (le_var 5) (le_var 1) lo_sub) (le_c _) lo_add) lo_irange2) (lt_set 4) (ls_if (le_1 (le_1 (le_lc (le_1 (le_var 2) lo_ival) (lt_set 8) le_yes (le_eor (le_B (le_2 (le_1 (le_acons (le_var 8) le_anil) l_end_of) (le_var 4) lo_le)) (le_B (le_2 (le_2 (le_var 4) (le_var 1) lo_add) (le_2 (le_var 8) (le_c _) lo_ix) lo_le)))) lo_all) lo_truth) (ls_mt (le_acons (le_var 4) le_anil) lm_append) ls_skip))
    (ls_ret (le_1 (le_1 (le_var 3) lo_seqOf) lo_tupOf))))))).weak (by decide +kernel)
def p__law_draw : List U → ExK → (U → Prop) → Prop := vDraw
theorem l__law_draw : LF KK 1 m__law_draw p__law_draw := lf_drawB
def pb__law_pick : VS := (vRet (v2 (vVar 1) (v1 (vaCons (vVar 0) (vaCons (v1 (vaCons (vVar 1) vaNil) vLenA) vaNil)) p__law_draw) vIx))
def p__law_pick : List U → ExK → (U → Prop) → Prop := vFn 2 2 pb__law_pick
theorem l__law_pick : LF KK 1 m__law_pick p__law_pick := (lf_fn (mb := b__law_pick) (pb := pb__law_pick)
    (ls_ret (le_2 (le_var 1) (le_1 (le_acons (le_var 0) (le_acons (le_1 (le_acons (le_var 1) le_anil) lo_len) le_anil)) l__law_draw) lo_ix))).weak (by decide +kernel)
def pb__law_number : VS := (vRet (v2 (vLst (vaCons (vC (.int 0)) (vaCons (vC (.int 1)) (vaCons (v1 (vaCons (vVar 0) (vaCons (vC (.int 9)) vaNil)) p__law_draw) (vaCons (v2 (vC (.int 999)) (v1 (vaCons (vVar 0) (vaCons (vC (.int 2)) vaNil)) p__law_draw) vSub) (vaCons (v1 (vaCons (vVar 0) (vaCons (vC (.int 1000)) vaNil)) p__law_draw) vaNil)))))) (v1 (vaCons (vVar 0) (vaCons (vC (.int 5)) vaNil)) p__law_draw) vLIx))
def p__law_number : List U → ExK → (U → Prop) → Prop := vFn 1 1 pb__law_number
theorem l__law_number : LF KK 4 m__law_number p__law_number := (lf_fn (mb := b__law_number) (pb := pb__law_number)
    (ls_ret (le_2 (le_lst (le_acons (le_c _) (le_acons (le_c _) (le_acons (le_1 (le_acons (le_var 0) (le_acons (le_c _) le_anil)) l__law_draw) (le_acons (le_2 (le_c _) (le_1 (le_acons (le_var 0) (le_acons (le_c _) le_anil)) l__law_draw) lo_sub) (le_acons (le_1 (le_acons (le_var 0) (le_acons (le_c _) le_anil)) l__law_draw) le_anil)))))) (le_1 (le_acons (le_var 0) (le_acons (le_c _) le_anil)) l__law_draw) lo_lix))).weak (by decide +kernel)
def pb__law_any_value : VS := (vSeq (vAsg [] (v1 (vaCons (vVar 0) (vaCons (vC (.int 4)) vaNil)) p__law_draw) (tSet 2)) (vSeq (vIfS (vOr (v2 (vVar 2) (vC (.int 0)) vEq) (v1 (v1 (vVar 1) vListOf) (vNil false))) (vRet (vCal (vaCons (vVar 0) vaNil) p__law_number)) vSkip) (vSeq (vIfS (vAnd (v2 (vVar 2) (vC (.int 1)) vEq) (v2 (v1 (vaCons (vVar 0) (vaCons (vC (.int 3)) vaNil)) p__law_draw) (vC (.int 0)) vEq)) (vRet (vTup (vaCons (v1 (vC (.int 1)) vNeg) (vaCons (vCal (vaCons (vVar 0) vaNil) p__law_number) vaNil)))) vSkip) (vSeq (vAsg [] (v1 (vaCons (vVar 0) (vaCons (v1 (vaCons (vVar 1) vaNil) vLenA) vaNil)) p__law_draw) (tSet 3)) (vRet (vTup (vaCons (vVar 3) (vaCons (v2 (v2 (v2 (vVar 1) (vVar 3) vIx) (vC (.int 0)) vIx) (v1 (vaCons (vVar 0) (vaCons (v2 (v2 (v2 (vVar 1) (vVar 3) vIx) (vC (.int 1)) vIx) (vC (.int 1)) vAdd) vaNil)) p__law_draw) vAdd) vaNil))))))))
def p__law_any_value : List U → ExK → (U → Prop) → Prop := vFn 4 2 pb__law_any_value
theorem l__law_any_value : LF KK 8 m__law_any_value p__law_any_value := (lf_fn (mb := b__law_any_value) (pb := pb__law_any_value)
    (ls_seq (own1 := []) (ls_asg (le_1 (le_acons (le_var 0) (le_acons (le_c _) le_anil)) l__law_draw) (lt_set 2))
    (ls_seq (own1 := []) (ls_if (le_or (le_2 (le_var 2) (le_c _) lo_eq) (le_nil (le_1 (le_var 1) lo_listOf))) (ls_ret (le_1 (le_acons (le_var 0) le_anil) l__law_number)) ls_skip)
    (ls_seq (own1 := []) (ls_if (le_and (le_2 (le_var 2) (le_c _) lo_eq) (le_2 (le_1 (le_acons (le_var 0) (le_acons (le_c _) le_anil)) l__law_draw) (le_c _) lo_eq)) (ls_ret (le_tup (le_acons (le_1 (le_c _) lo_neg) (le_acons (le_1 (le_acons (le_var 0) le_anil) l__law_number) le_anil)))) ls_skip)
    (ls_seq (own1 := []) (ls_asg (le_1 (le_acons (le_var 0) (le_acons (le_1 (le_acons (le_var 1) le_anil) lo_len) le_anil)) l__law_draw) (lt_set 3))
    (ls_ret (le_tup (le_acons (le_var 3) (le_acons (le_2 (le_2 (le_2 (le_var 1) (le_var 3) lo_ix) (le_c _) lo_ix) (le_1 (le_acons (le_var 0) (le_acons (le_2 (le_2 (le_2 (le_var 1) (le_var 3) lo_ix) (le_c _) lo_ix) (le_c _) lo_add) le_anil)) l__law_draw) lo_add) le_anil))))))))).weak (by decide +kernel)
def pb__law_state : VS := (vSeq (vAsgN [] (vNew (vLst vaNil)) 2) (vSeq (vAsg [2] (vC (.int 1)) (tSet 3)) (vSeq (vForB [2] (v1 (v1 (vaCons (vVar 0) (vaCons (v2 (vVar 1) (vC (.int 1)) vAdd) vaNil)) p__law_draw) vIR1) (tSet 4) (vSeq (vAsg [2] (v2 (vC (.int 1)) (v1 (vaCons (vVar 0) (vaCons (v2 (vLst (vaCons (vC (.int 3)) (vaCons (vC (.int 8)) vaNil))) (v1 (vaCons (vVar 0) (vaCons (vC (.int 2)) vaNil)) p__law_draw) vLIx) vaNil)) p__law_draw) vAdd) (tSet 8)) (vSeq (vAsg [2] (v2 (vLst (vaCons (vC (.str "held")) (vaCons (vC (.str "held")) (vaCons (vC (.str "shown")) (vaCons (vC (.str "gone")) vaNil))))) (v1 (vaCons (vVar 0) (vaCons (vC (.int 4)) vaNil)) p__law_draw) vLIx) (tSet 9)) (vSeq (vAsg [2] (v2 (vVar 3) (v2 (vLst (vaCons (vC (.int 0)) (vaCons (vC (.int 0)) (vaCons (v1 (vaCons (vVar 0) (vaCons (vC (.int 4)) vaNil)) p__law_draw) vaNil)))) (v1 (vaCons (vVar 0) (vaCons (vC (.int 3)) vaNil)) p__law_draw) vLIx) vAdd) (tSet 3)) (vSeq (vAsg [2] (vVar 3) (tSet 10)) (vSeq (vIfS (v2 (vVar 9) (vC (.str "gone")) vEq) (vAsg [2] (v2 (vC (.int 1)) (v1 (vaCons (vVar 0) (vaCons (vVar 3) vaNil)) p__law_draw) vAdd) (tSet 10)) (vAsg [2] (v2 (vVar 3) (vVar 8) vAdd) (tSet 3))) (vMtS [2] 2 (vaCons (vTup (vaCons (vVar 10) (vaCons (vVar 8) (vaCons (vVar 9) vaNil)))) vaNil) vAppend))))))) (vSeq (vAsg [] (v1 (vLc (v1 (v1 (vaCons (vVar 0) (vaCons (vC (.int 3)) vaNil)) p__law_draw) vIR1) (tSet 4) vYes (vCal (vaCons (vVar 0) vaNil) p__law_number) [4]) vTupOf) (tSet 5)) (vSeq (vAsgN [] (vNew (vLst vaNil)) 6) (vSeq (vForB [6] (v1 (vVar 2) vSeqOf) (tTup 3 (tCons (tSet 10) (tCons (tSet 8) (tCons (tSet 9) tNil)))) (vSeq (vAsg [6] (vNew (vLc (v1 (vVar 8) vIR1) (tSet 4) vYes (v2 (vLst (vaCons (vC (.non)) (vaCons (vCal (vaCons (vVar 0) (vaCons (vVar 2) vaNil)) p__law_any_value) vaNil))) (v1 (vaCons (vB (v2 (v1 (vaCons (vVar 0) (vaCons (vC (.int 4)) vaNil)) p__law_draw) (vC (.int 0)) vGt)) vaNil) vInt) vLIx) [4])) (tSet 11)) (vMtS [6] 6 (vaCons (vTup (vaCons (vVar 10) (vaCons (vVar 8) (vaCons (vVar 9) (vaCons (vIf (v2 (vVar 9) (vC (.str "gone")) vNe) (v1 (v1 (vVar 11) vSeqOf) vTupOf) (vTup vaNil)) vaNil))))) vaNil) vAppend))) (vSeq (vAsg [] (v1 (vLc (v1 (vC (.int 8)) vIR1) (tSet 4) vYes (v2 (vLst (vaCons (vC (.non)) (vaCons (vCal (vaCons (vVar 0) (vaCons (vVar 2) vaNil)) p__law_any_value) vaNil))) (v1 (vaCons (vB (v2 (v1 (vaCons (vVar 0) (vaCons (vC (.int 5)) vaNil)) p__law_draw) (vC (.int 0)) vGt)) vaNil) vInt) vLIx) [4]) vTupOf) (tSet 7)) (vRet (vTup (vaCons (v2 (v2 (vVar 3) (vC (.int 9)) vAdd) (v1 (vaCons (vVar 0) (vaCons (vC (.int 6)) vaNil)) p__law_draw) vAdd) (vaCons (v1 (v1 (vVar 6) vSeqOf) vTupOf) (vaCons (vVar 7) (vaCons (vVar 5) vaNil)))))))))))))
def p__law_state : List U → ExK → (U → Prop) → Prop := vFn 12 2 pb__law_state
theorem l__law_state : LF KK 60 m__law_state p__law_state := (lf_fn (mb := b__law_state) (pb := pb__law_state)
    (ls_seq (own1 := [2]) (ls_new (own' := [2]) (ln_new (le_lst le_anil)))
    (ls_seq (own1 := [2]) (ls_asg (le_c _) (lt_set 3))
    (ls_seq (own1 := [2]) (ls_forB (le_1 (le_1 (le_acons (le_var 0) (le_acons (le_2 (le_var 1) (le_c _) lo_add) le_anil)) l__law_draw) lo_irange1) (lt_set 4) (ls_seq (own1 := [2]) (ls_asg (le_2 (le_c _) (le_1 (le_acons (le_var 0) (le_acons (le_2 (le_lst (le_acons (le_c _) (le_acons (le_c _) le_anil))) (le_1 (le_acons (le_var 0) (le_acons (le_c _) le_anil)) l__law_draw) lo_lix) le_anil)) l__law_draw) lo_add) (lt_set 8))
    (ls_seq (own1 := [2]) (ls_asg (le_2 (le_lst (le_acons (le_c _) (le_acons (le_c _) (le_acons (le_c _) (le_acons (le_c _) le_anil))))) (le_1 (le_acons (le_var 0) (le_acons (le_c _) le_anil)) l__law_draw) lo_lix) (lt_set 9))
    (ls_seq (own1 := [2]) (ls_asg (le_2 (le_var 3) (le_2 (le_lst (le_acons (le_c _) (le_acons (le_c _) (le_acons (le_1 (le_acons (le_var 0) (le_acons (le_c _) le_anil)) l__law_draw) le_anil)))) (le_1 (le_acons (le_var 0) (le_acons (le_c _) le_anil)) l__law_draw) lo_lix) lo_add) (lt_set 3))
    (ls_seq (own1 := [2]) (ls_asg (le_var 3) (lt_set 10))
    (ls_seq (own1 := [2]) (ls_if (le_2 (le_var 9) (le_c _) lo_eq) (ls_asg (le_2 (le_c _) (le_1 (le_acons (le_var 0) (le_acons (le_var 3) le_anil)) l__law_draw) lo_add) (lt_set 10)) (ls_asg (le_2 (le_var 3) (le_var 8) lo_add) (lt_set 3)))
    (ls_mt (le_acons (le_tup (le_acons (le_var 10) (le_acons (le_var 8) (le_acons (le_var 9) le_anil)))) le_anil) lm_append)))))))
    (ls_seq (own1 := []) (ls_free (own1 := []) (ls_asg (le_1 (le_lc (le_1 (le_1 (le_acons (le_var 0) (le_acons (le_c _) le_anil)) l__law_draw) lo_irange1) (lt_set 4) le_yes (le_1 (le_acons (le_var 0) le_anil) l__law_number)) lo_tupOf) (lt_set 5)))
    (ls_seq (own1 := [6]) (ls_new (own' := [6]) (ln_new (le_lst le_anil)))
    (ls_seq (own1 := [6]) (ls_forB (le_1 (le_var 2) lo_ival) (lt_tup (lt_cons (lt_set 10) (lt_cons (lt_set 8) (lt_cons (lt_set 9) lt_nil)))) (ls_seq (own1 := [6]) (ls_asg (le_new (le_lc (le_1 (le_var 8) lo_irange1) (lt_set 4) le_yes (le_2 (le_lst (le_acons (le_c _) (le_acons (le_1 (le_acons (le_var 0) (le_acons (le_var 2) le_anil)) l__law_any_value) le_anil))) (le_1 (le_acons (le_B (le_2 (le_1 (le_acons (le_var 0) (le_acons (le_c _) le_anil)) l__law_draw) (le_c _) lo_gt)) le_anil) lo_int) lo_lix))) (lt_set 11))
    (ls_mt (le_acons (le_tup (le_acons (le_var 10) (le_acons (le_var 8) (le_acons (le_var 9) (le_acons (le_if (le_2 (le_var 9) (le_c _) lo_ne) (le_1 (le_1 (le_var 11) lo_seqOf) lo_tupOf) (le_tup le_anil)) le_anil))))) le_anil) lm_append)))
    (ls_seq (own1 := []) (ls_free (own1 := []) (ls_asg (le_1 (le_lc (le_1 (le_c _) lo_irange1) (lt_set 4) le_yes (le_2 (le_lst (le_acons (le_c _) (le_acons (le_1 (le_acons (le_var 0) (le_acons (le_var 2) le_anil)) l__law_any_value) le_anil))) (le_1 (le_acons (le_B (le_2 (le_1 (le_acons (le_var 0) (le_acons (le_c _) le_anil)) l__law_draw) (le_c _) lo_gt)) le_anil) lo_int) lo_lix)) lo_tupOf) (lt_set 7)))
    (ls_ret (le_tup (le_acons (le_2 (le_2 (le_var 3) (le_c _) lo_add) (le_1 (le_acons (le_var 0) (le_acons (le_c _) le_anil)) l__law_draw) lo_add) (le_acons (le_1 (le_1 (le_var 6) lo_seqOf) lo_tupOf) (le_acons (le_var 7) (le_acons (le_var 5) le_anil)))))))))))))).weak (by decide +kernel)
def pb__law_held_at : VS := (vSeq (vAsg [] (vTup (vaCons (vVar 1) (vaCons (vVar 2) (vaCons (vC (.str "held")) (vaCons (v2 (vTup (vaCons (vC (.non)) vaNil)) (vVar 2) vMul) vaNil))))) (tSet 3)) (vRet (vTup (vaCons (v2 (vVar 0) (vC (.int 0)) vIx) (vaCons (v2 (v2 (vVar 0) (vC (.int 1)) vIx) (vTup (vaCons (vVar 3) vaNil)) vAdd) (vaCons (v2 (vVar 0) (vC (.int 2)) vIx) (vaCons (v2 (vVar 0) (vC (.int 3)) vIx) vaNil)))))))
def p__law_held_at : List U → ExK → (U → Prop) → Prop := vFn 4 3 pb__law_held_at
theorem l__law_held_at : LF KK 0 m__law_held_at p__law_held_at := (lf_fn (mb := b__law_held_at) (pb := pb__law_held_at)
    (ls_seq (own1 := []) (ls_asg (le_tup (le_acons (le_var 1) (le_acons (le_var 2) (le_acons (le_c _) (le_acons (le_2 (le_tup (le_acons (le_c _) le_anil)) (le_var 2) lo_mulT) le_anil))))) (lt_set 3))
    (ls_ret (le_tup (le_acons (le_2 (le_var 0) (le_c _) lo_ix) (le_acons (le_2 (le_2 (le_var 0) (le_c _) lo_ix) (le_tup (le_acons (le_var 3) le_anil)) lo_add) (le_acons (le_2 (le_var 0) (le_c _) lo_ix) (le_acons (le_2 (le_var 0) (le_c _) lo_ix) le_anil)))))))).weak (by decide +kernel)
def pb__law_gone_at : VS := (vSeq (vAsg [] (v2 (v2 (vVar 0) (vC (.int 1)) vIx) (vVar 1) vIx) (tTup 4 (tCons (tSet 2) (tCons (tSet 3) (tCons (tSet 4) (tCons (tSet 5) tNil)))))) (vRet (vTup (vaCons (v2 (vVar 0) (vC (.int 0)) vIx) (vaCons (v2 (v2 (v3 (v2 (vVar 0) (vC (.int 1)) vIx) (vPart none) (vPart (some (vVar 1))) vCut) (vTup (vaCons (vTup (vaCons (vVar 2) (vaCons (vVar 3) (vaCons (vC (.str "gone")) (vaCons (vTup vaNil) vaNil))))) vaNil)) vAdd) (v3 (v2 (vVar 0) (vC (.int 1)) vIx) (vPart (some (v2 (vVar 1) (vC (.int 1)) vAdd))) (vPart none) vCut) vAdd) (vaCons (v2 (vVar 0) (vC (.int 2)) vIx) (vaCons (v2 (vVar 0) (vC (.int 3)) vIx) vaNil)))))))
def p__law_gone_at : List U → ExK → (U → Prop) → Prop := vFn 6 2 pb__law_gone_at
theorem l__law_gone_at : LF KK 0 m__law_gone_at p__law_gone_at := (lf_fn (mb := b__law_gone_at) (pb := pb__law_gone_at)
    (ls_seq (own1 := []) (ls_asg (le_2 (le_2 (le_var 0) (le_c _) lo_ix) (le_var 1) lo_ix) (lt_tup (lt_cons (lt_set 2) (lt_cons (lt_set 3) (lt_cons (lt_set 4) (lt_cons (lt_set 5) lt_nil))))))
    (ls_ret (le_tup (le_acons (le_2 (le_var 0) (le_c _) lo_ix) (le_acons (le_2 (le_2 (le_3 (le_2 (le_var 0) (le_c _) lo_ix) le_pnone (le_psome (le_var 1)) lo_cut) (le_tup (le_acons (le_tup (le_acons (le_var 2) (le_acons (le_var 3) (le_acons (le_c _) (le_acons (le_tup le_anil) le_anil))))) le_anil)) lo_add) (le_3 (le_2 (le_var 0) (le_c _) lo_ix) (le_psome (le_2 (le_var 1) (le_c _) lo_add)) le_pnone lo_cut) lo_add) (le_acons (le_2 (le_var 0) (le_c _) lo_ix) (le_acons (le_2 (le_var 0) (le_c _) lo_ix) le_anil)))))))).weak (by decide +kernel)
def pb__law_is_right : VS := (vSeq (vAsg [] (vCal (vaCons (vVar 0) (vaCons (vVar 1) vaNil)) p_right_bases) (tSet 2)) (vSeq (vFor [] (v2 (vC (.int 0)) (v2 (v2 (vVar 0) (vC (.int 0)) vIx) (vC (.int 1)) vAdd) vIR2) (tSet 3) (vIfS (v2 (v1 (vaCons (vCal (vaCons (vCal (vaCons (vVar 0) (vaCons (vVar 3) (vaCons (vVar 1) vaNil))) p__law_held_at) vaNil) p_is_state) vaNil) vRepr) (v1 (vaCons (vB (v2 (vVar 3) (vVar 2) vIn)) vaNil) vRepr) vNe) (vRet (vC (.bl false))) vSkip)) (vRet (vC (.bl true)))))
def p__law_is_right : List U → ExK → (U → Prop) → Prop := vFn 4 2 pb__law_is_right
theorem l__law_is_right : LF KK 0 m__law_is_right p__law_is_right := (lf_fn (mb := b__law_is_right) (pb := pb__law_is_right)
    (ls_seq (own1 := []) (ls_asg (le_1 (le_acons (le_var 0) (le_acons (le_var 1) le_anil)) l_right_bases) (lt_set 2))
    (ls_seq (own1 := []) (ls_for (le_2 (le_c _) (le_2 (le_2 (le_var 0) (le_c _) lo_ix) (le_c _) lo_add) lo_irange2) (lt_set 3) (ls_if (le_2 (le_1 (le_acons (le_1 (le_acons (le_1 (le_acons (le_var 0) (le_acons (le_var 3) (le_acons (le_var 1) le_anil))) l__law_held_at) le_anil) l_is_state) le_anil) lo_repr) (le_1 (le_acons (le_B (le_2 (le_var 3) (le_var 2) lo_in)) le_anil) lo_repr) lo_ne) (ls_ret (le_c _)) ls_skip))
    (ls_ret (le_c _))))).weak (by decide +kernel)
def pb__law_behind_right : VS := (vSeq (vAsg [] (vCal (vaCons (vCal (vaCons (vVar 0) (vaCons (vVar 1) (vaCons (vVar 2) vaNil))) p__law_held_at) (vaCons (vVar 3) vaNil)) p_right_bases) (tSet 4)) (vSeq (vAsg [] (vNew (vLc (v1 (vCal (vaCons (vVar 0) (vaCons (vVar 3) vaNil)) p_right_bases) vSeqOf) (tSet 6) (vOr (v2 (v2 (vVar 6) (vVar 3) vAdd) (vVar 1) vLe) (v2 (v2 (vVar 1) (vVar 2) vAdd) (vVar 6) vLe)) (vVar 6) [6])) (tSet 5)) (vRet (vB (v2 (vVar 4) (v1 (v1 (vVar 5) vSeqOf) vTupOf) vEq)))))
def p__law_behind_right : List U → ExK → (U → Prop) → Prop := vFn 7 4 pb__law_behind_right
theorem l__law_behind_right : LF KK 0 m__law_behind_right p__law_behind_right := (lf_fn (mb := b__law_behind_right) (pb := pb__law_behind_right)
    (ls_seq (own1 := []) (ls_asg (le_1 (le_acons (le_1 (le_acons (le_var 0) (le_acons (le_var 1) (le_acons (le_var 2) le_anil))) l__law_held_at) (le_acons (le_var 3) le_anil)) l_right_bases) (lt_set 4))
    (ls_seq (own1 := []) (ls_asg (le_new (le_lc (le_1 (le_1 (le_acons (le_var 0) (le_acons (le_var 3) le_anil)) l_right_bases) lo_ival) (lt_set 6) (le_or (le_2 (le_2 (le_var 6) (le_var 3) lo_add) (le_var 1) lo_le) (le_2 (le_2 (le_var 1) (le_var 2) lo_add) (le_var 6) lo_le)) (le_var 6))) (lt_set 5))
    (ls_ret (le_B (le_2 (le_var 4) (le_1 (le_1 (le_var 5) lo_seqOf) lo_tupOf) lo_eq)))))).weak (by decide +kernel)
def pb__law_wider_right : VS := (vSeq (vAsg [] (v2 (vTup (vaCons (v2 (v2 (vVar 0) (vC (.int 0)) vIx) (vC (.int 9)) vAdd) vaNil)) (v3 (vVar 0) (vPart (some (vC (.int 1)))) (vPart none) vCut) vAdd) (tSet 2)) (vSeq (vAsg [] (vCal (vaCons (vVar 0) (vaCons (vVar 1) vaNil)) p_right_bases) (tSet 3)) (vSeq (vAsg [] (vNew (vLc (v1 (vCal (vaCons (vVar 2) (vaCons (vVar 1) vaNil)) p_right_bases) vSeqOf) (tSet 5) (v2 (v2 (vVar 5) (vVar 1) vAdd) (v2 (vVar 0) (vC (.int 0)) vIx) vLe) (vVar 5) [5])) (tSet 4)) (vRet (vEAnd (vB (v2 (v1 (v1 (vVar 4) vSeqOf) vTupOf) (vVar 3) vEq)) (vB (v2 (v2 (v2 (v2 (vVar 0) (vC (.int 0)) vIx) (vC (.int 9)) vAdd) (vVar 1) vSub) (vCal (vaCons (vVar 2) (vaCons (vVar 1) vaNil)) p_right_bases) vIn)))))))
def p__law_wider_right : List U → ExK → (U → Prop) → Prop := vFn 6 2 pb__law_wider_right
theorem l__law_wider_right : LF KK 0 m__law_wider_right p__law_wider_right := (lf_fn (mb := b__law_wider_right) (pb := pb__law_wider_right)
    (ls_seq (own1 := []) (ls_asg (le_2 (le_tup (le_acons (le_2 (le_2 (le_var 0) (le_c _) lo_ix) (le_c _) lo_add) le_anil)) (le_3 (le_var 0) (le_psome (le_c _)) le_pnone lo_cut) lo_add) (lt_set 2))
    (ls_seq (own1 := []) (ls_asg (le_1 (le_acons (le_var 0) (le_acons (le_var 1) le_anil)) l_right_bases) (lt_set 3))
    (ls_seq (own1 := []) (ls_asg (le_new (le_lc (le_1 (le_1 (le_acons (le_var 2) (le_acons (le_var 1) le_anil)) l_right_bases) lo_ival) (lt_set 5) (le_2 (le_2 (le_var 5) (le_var 1) lo_add) (le_2 (le_var 0) (le_c _) lo_ix) lo_le) (le_var 5))) (lt_set 4))
    (ls_ret (le_eand (le_B (le_2 (le_1 (le_1 (le_var 4) lo_seqOf) lo_tupOf) (le_var 3) lo_eq)) (le_B (le_2 (le_2 (le_2 (le_2 (le_var 0) (le_c _) lo_ix) (le_c _) lo_add) (le_var 1) lo_sub) (le_1 (le_acons (le_var 2) (le_acons (le_var 1) le_anil)) l_right_bases) lo_in)))))))).weak (by decide +kernel)
def pb_law : VS := (vSeq (vAsg [] (vB (v2 (v1 (vaCons (vVar 1) (vaCons (vC (.int 2)) vaNil)) p__law_draw) (vC (.int 1)) vEq)) (tSet 2)) (vSeq (vAsg [] (vIf (v1 (vVar 2) vTruth) (vCal (vaCons (vVar 1) (vaCons (vC (.int 6)) vaNil)) p__law_state) (vCal (vaCons (v2 (vC (.int 2)) (v1 (vaCons (vVar 1) (vaCons (vC (.int 30)) vaNil)) p__law_draw) vAdd) vaNil) p_first_state)) (tSet 3)) (vSeq (vForB [] (v1 (v2 (vC (.int 1)) (v1 (vaCons (vVar 1) (vaCons (vC (.int 12)) vaNil)) p__law_draw) vAdd) vIR1) (tSet 4) (vSeq (vPar2 [] 7 8 (vaCons (v2 (vC (.int 1)) (v1 (vaCons (vVar 1) (vaCons (vC (.int 8)) vaNil)) p__law_draw) vAdd) (vaCons (v2 (vC (.int 1)) (v1 (vaCons (vVar 1) (vaCons (vC (.int 8)) vaNil)) p__law_draw) vAdd) vaNil))) (vSeq (vAsg [] (vB (v2 (v1 (vaCons (vVar 1) (vaCons (vC (.int 3)) vaNil)) p__law_draw) (vC (.int 1)) vEq)) (tSet 5)) (vSeq (vAsg [] (vCal (vaCons (vVar 3) (vaCons (vVar 7) vaNil)) p_right_bases) (tSet 6)) (vSeq (vIfS (vOr (vNot (v1 (vCal (vaCons (vVar 3) (vaCons (vVar 7) vaNil)) p__law_is_right) vTruth)) (vNot (v1 (vCal (vaCons (vVar 3) (vaCons (vVar 7) vaNil)) p__law_wider_right) vTruth))) (vRet (vC (.bl false))) vSkip) (vIfS (v2 (vVar 6) (vTup vaNil) vNe) (vSeq (vAsg [] (vCal (vaCons (vVar 1) (vaCons (vVar 6) vaNil)) p__law_pick) (tSet 9)) (vSeq (vIfS (vNot (v1 (vCal (vaCons (vVar 3) (vaCons (vVar 9) (vaCons (vVar 7) (vaCons (vVar 8) vaNil)))) p__law_behind_right) vTruth)) (vRet (vC (.bl false))) vSkip) (vSeq (vAsg [] (vCal (vaCons (vVar 3) (vaCons (vVar 8) vaNil)) p_right_bases) (tSet 10)) (vSeq (vAsg [] (vCal (vaCons (vVar 3) (vaCons (vVar 9) (vaCons (vVar 7) vaNil))) p__law_held_at) (tSet 3)) (vSeq (vIfS (v1 (vVar 5) vTruth) (vAsg [] (vCal (vaCons (vVar 3) (vaCons (v2 (v1 (vaCons (v2 (vVar 3) (vC (.int 1)) vIx) vaNil) vLenA) (vC (.int 1)) vSub) vaNil)) p__law_gone_at) (tSet 3)) vSkip) (vIfS (vAnd (v1 (vVar 5) vTruth) (v2 (vCal (vaCons (vVar 3) (vaCons (vVar 8) vaNil)) p_right_bases) (vVar 10) vNe)) (vRet (vC (.bl false))) vSkip)))))) vSkip)))))) (vRet (vC (.bl true))))))
theorem law_link {ns : List Int} (hl : ns.length ≤ 63) (x : pb_law (none :: some (.ref 2) :: List.replicate 9 none) TrueK) : ∃ ah', m_law [.ref 0] (ah0 ns) = .ok (.bl true) ah' :=
  law_V (K := KK) (n := 9) (c := 63) (rest := (sSeq (sAsg (eB (e2 (e1 (aCons (eVar 1) (aCons (eC (.int 2)) aNil)) m__law_draw) (eC (.int 1)) cEq)) (gSet 2)) (sSeq (sAsg (eIf (e1 (eVar 2) truth) (e1 (aCons (eVar 1) (aCons (eC (.int 6)) aNil)) m__law_state) (e1 (aCons (e2 (eC (.int 2)) (e1 (aCons (eVar 1) (aCons (eC (.int 30)) aNil)) m__law_draw) oAdd) aNil) m_first_state)) (gSet 3)) (sSeq (sFor (e1 (e2 (eC (.int 1)) (e1 (aCons (eVar 1) (aCons (eC (.int 12)) aNil)) m__law_draw) oAdd) iRange1) (gSet 4) (sSeq (sPar2 7 8 (aCons (e2 (eC (.int 1)) (e1 (aCons (eVar 1) (aCons (eC (.int 8)) aNil)) m__law_draw) oAdd) (aCons (e2 (eC (.int 1)) (e1 (aCons (eVar 1) (aCons (eC (.int 8)) aNil)) m__law_draw) oAdd) aNil))) (sSeq (sAsg (eB (e2 (e1 (aCons (eVar 1) (aCons (eC (.int 3)) aNil)) m__law_draw) (eC (.int 1)) cEq)) (gSet 5)) (sSeq (sAsg (e1 (aCons (eVar 3) (aCons (eVar 7) aNil)) m_right_bases) (gSet 6)) (sSeq (sIf (bOr (bNot (e1 (e1 (aCons (eVar 3) (aCons (eVar 7) aNil)) m__law_is_right) truth)) (bNot (e1 (e1 (aCons (eVar 3) (aCons (eVar 7) aNil)) m__law_wider_right) truth))) (sRet (eC (.bl false))) sSkip) (sIf (e2 (eVar 6) (eTup aNil) cNe) (sSeq (sAsg (e1 (aCons (eVar 1) (aCons (eVar 6) aNil)) m__law_pick) (gSet 9)) (sSeq (sIf (bNot (e1 (e1 (aCons (eVar 3) (aCons (eVar 9) (aCons (eVar 7) (aCons (eVar 8) aNil)))) m__law_behind_right) truth)) (sRet (eC (.bl false))) sSkip) (sSeq (sAsg (e1 (aCons (eVar 3) (aCons (eVar 8) aNil)) m_right_bases) (gSet 10)) (sSeq (sAsg (e1 (aCons (eVar 3) (aCons (eVar 9) (aCons (eVar 7) aNil))) m__law_held_at) (gSet 3)) (sSeq (sIf (e1 (eVar 5) truth) (sAsg (e1 (aCons (eVar 3) (aCons (e2 (e1 (aCons (e2 (eVar 3) (eC (.int 1)) oIx) aNil) oLenA) (eC (.int 1)) oSub) aNil)) m__law_gone_at) (gSet 3)) sSkip) (sIf (bAnd (e1 (eVar 5) truth) (e2 (e1 (aCons (eVar 3) (aCons (eVar 8) aNil)) m_right_bases) (eVar 10) cNe)) (sRet (eC (.bl false))) sSkip)))))) sSkip)))))) (sRet (eC (.bl true))))))) (pr := pb_law) (md := m__law_deck) (deck_B hl) ⟨dkB ns, _, [], rfl, dkB_ok hl⟩
    (ls_seq (own1 := []) (ls_asg (le_B (le_2 (le_1 (le_acons (le_var 1) (le_acons (le_c _) le_anil)) l__law_draw) (le_c _) lo_eq)) (lt_set 2))
    (ls_seq (own1 := []) (ls_asg (le_if (le_1 (le_var 2) lo_truth) (le_1 (le_acons (le_var 1) (le_acons (le_c _) le_anil)) l__law_state) (le_1 (le_acons (le_2 (le_c _) (le_1 (le_acons (le_var 1) (le_acons (le_c _) le_anil)) l__law_draw) lo_add) le_anil) l_first_state)) (lt_set 3))
    (ls_seq (own1 := []) (ls_forB (le_1 (le_2 (le_c _) (le_1 (le_acons (le_var 1) (le_acons (le_c _) le_anil)) l__law_draw) lo_add) lo_irange1) (lt_set 4) (ls_seq (own1 := []) (ls_par2 (le_acons (le_2 (le_c _) (le_1 (le_acons (le_var 1) (le_acons (le_c _) le_anil)) l__law_draw) lo_add) (le_acons (le_2 (le_c _) (le_1 (le_acons (le_var 1) (le_acons (le_c _) le_anil)) l__law_draw) lo_add) le_anil)))
    (ls_seq (own1 := []) (ls_asg (le_B (le_2 (le_1 (le_acons (le_var 1) (le_acons (le_c _) le_anil)) l__law_draw) (le_c _) lo_eq)) (lt_set 5))
    (ls_seq (own1 := []) (ls_asg (le_1 (le_acons (le_var 3) (le_acons (le_var 7) le_anil)) l_right_bases) (lt_set 6))
    (ls_seq (own1 := []) (ls_if (le_or (le_not (le_1 (le_1 (le_acons (le_var 3) (le_acons (le_var 7) le_anil)) l__law_is_right) lo_truth)) (le_not (le_1 (le_1 (le_acons (le_var 3) (le_acons (le_var 7) le_anil)) l__law_wider_right) lo_truth))) (ls_ret (le_c _)) ls_skip)
    (ls_if (le_2 (le_var 6) (le_tup le_anil) lo_ne) (ls_seq (own1 := []) (ls_asg (le_1 (le_acons (le_var 1) (le_acons (le_var 6) le_anil)) l__law_pick) (lt_set 9))
    (ls_seq (own1 := []) (ls_if (le_not (le_1 (le_1 (le_acons (le_var 3) (le_acons (le_var 9) (le_acons (le_var 7) (le_acons (le_var 8) le_anil)))) l__law_behind_right) lo_truth)) (ls_ret (le_c _)) ls_skip)
    (ls_seq (own1 := []) (ls_asg (le_1 (le_acons (le_var 3) (le_acons (le_var 8) le_anil)) l_right_bases) (lt_set 10))
    (ls_seq (own1 := []) (ls_asg (le_1 (le_acons (le_var 3) (le_acons (le_var 9) (le_acons (le_var 7) le_anil))) l__law_held_at) (lt_set 3))
    (ls_seq (own1 := []) (ls_if (le_1 (le_var 5) lo_truth) (ls_asg (le_1 (le_acons (le_var 3) (le_acons (le_2 (le_1 (le_acons (le_2 (le_var 3) (le_c _) lo_ix) le_anil) lo_len) (le_c _) lo_sub) le_anil)) l__law_gone_at) (lt_set 3)) ls_skip)
    (ls_if (le_and (le_1 (le_var 5) lo_truth) (le_2 (le_1 (le_acons (le_var 3) (le_acons (le_var 8) le_anil)) l_right_bases) (le_var 10) lo_ne)) (ls_ret (le_c _)) ls_skip)))))) ls_skip))))))
    (ls_ret (le_c _))))) (by decide +kernel) x
end HL

namespace HL
open PySem PySem.Spec PyProof.Rows L2 HA HV
/-! S0: rooms, states, values -/
structure Room where
  base : Int
  size : Int
  mode : Str
  cells : List U
def Room.u (r : Room) : U := .tup [.int r.base, .int r.size, .str r.mode, .tup r.cells]
def Room.here (r : Room) : Bool := !decide (r.mode = "gone")
def stU (span : Int) (rooms : List Room) (regs told : List U) : U := .tup [.int span, .tup (rooms.map Room.u), .tup regs, .tup told]
structure Trip where
  base : Int
  size : Int
  mode : Str
def Trip.u (t : Trip) : U := .tup [.int t.base, .int t.size, .str t.mode]
def Trip.here (t : Trip) : Bool := !decide (t.mode = "gone")
def mode3 (m : Str) : Prop := m = "held" ∨ m = "shown" ∨ m = "gone"
inductive Val (rooms : List (Int × Int)) : U → Prop where
  | num {i : Int} : 0 ≤ i → i ≤ 999 → Val rooms (.int i)
  | out {i : Int} : 0 ≤ i → i ≤ 999 → Val rooms (.tup [.int (-1), .int i])
  | room {w : Nat} {b s i : Int} : rooms[w]? = some (b, s) → b ≤ i → i ≤ b + s → Val rooms (.tup [.int w, .int i])
def Val0 (rooms : List (Int × Int)) (u : U) : Prop := u = .non ∨ Val rooms u
def bs (ts : List Trip) : List (Int × Int) := ts.map fun t => (t.base, t.size)
theorem mode_ok {m : Str} (h : mode3 m) : PyData.strOk m = true := by
  rcases h with rfl | rfl | rfl <;> decide +kernel
theorem lay_trips {ts : List Trip} (h : ∀ t ∈ ts, mode3 t.mode) : Lays 2 (ts.map Trip.u) := Lays.all fun u hu => by
  obtain ⟨t, ht, rfl⟩ := List.mem_map.mp hu
  exact Lay.tup (Lays.cons Lay.int (Lays.cons Lay.int (Lays.cons (Lay.str (mode_ok (h t ht))) Lays.nil)))
structure Tr (ts : List Trip) (a : Int) : Prop where
  one : ∀ t ∈ ts, 1 ≤ t.base ∧ 1 ≤ t.size ∧ t.size ≤ 8 ∧ mode3 t.mode ∧ t.base ≤ a ∧ (t.here = true → t.base + t.size ≤ a)
  apart : (ts.filter Trip.here).Pairwise fun x y => x.base + x.size ≤ y.base
theorem Tr.nil {a : Int} : Tr [] a := ⟨by simp, by simp⟩
theorem Tr.up {ts : List Trip} {a b : Int} (h : Tr ts a) (l : a ≤ b) : Tr ts b := ⟨fun t ht => by have := h.one t ht; exact ⟨this.1, this.2.1, this.2.2.1, this.2.2.2.1, by omega, fun z => by have := this.2.2.2.2.2 z; omega⟩, h.apart⟩
theorem Tr.gone {ts : List Trip} {a : Int} (h : Tr ts a) {t : Trip} (hm : t.mode = "gone") (h1 : 1 ≤ t.base ∧ t.base ≤ a) (h2 : 1 ≤ t.size ∧ t.size ≤ 8) : Tr (ts ++ [t]) a := ⟨fun x hx => by
  rcases List.mem_append.mp hx with hx | hx
  · exact h.one x hx
  · simp only [List.mem_singleton] at hx
    subst hx
    exact ⟨h1.1, h2.1, h2.2, .inr (.inr hm), h1.2, fun z => by simp [Trip.here, hm] at z⟩, by
  have e : t.here = false := by simp [Trip.here, hm]
  rw [List.filter_append]
  simpa [e] using h.apart⟩
theorem Tr.here {ts : List Trip} {a b : Int} (h : Tr ts a) {t : Trip} (hm : mode3 t.mode) (h1 : 1 ≤ t.base ∧ a ≤ t.base) (h2 : 1 ≤ t.size ∧ t.size ≤ 8) (hb : t.base + t.size ≤ b) : Tr (ts ++ [t]) b := ⟨fun x hx => by
  rcases List.mem_append.mp hx with hx | hx
  · exact (h.up (b := b) (by omega)).one x hx
  · simp only [List.mem_singleton] at hx
    subst hx
    exact ⟨h1.1, h2.1, h2.2, hm, by omega, fun _ => hb⟩, by
  rw [List.filter_append, List.pairwise_append]
  refine ⟨h.apart, ?_, fun x hx y hy => ?_⟩
  · cases e : t.here <;> simp [e]
  · rw [List.mem_filter] at hx hy
    have := (h.one x hx.1).2.2.2.2.2 hx.2
    simp only [List.mem_singleton] at hy
    rw [hy.1]
    omega⟩
structure GoodSt (span : Int) (rooms : List Room) (regs told : List U) : Prop where
  sp : 2 ≤ span ∧ span ≤ 999
  room : ∀ r ∈ rooms, 1 ≤ r.base ∧ 1 ≤ r.size ∧ r.size ≤ 80 ∧ mode3 r.mode ∧ r.base + r.size ≤ span
  cells : ∀ r ∈ rooms, (r.here = false → r.cells = []) ∧ (r.here = true → (r.cells.length : Int) = r.size) ∧ ∀ c ∈ r.cells, Val0 (rooms.map fun r => (r.base, r.size)) c
  apart : (rooms.filter Room.here).Pairwise fun x y => x.base + x.size ≤ y.base
  regs : regs.length = 8 ∧ ∀ v ∈ regs, Val0 (rooms.map fun r => (r.base, r.size)) v
  told : told.length ≤ 2 ∧ ∀ v ∈ told, ∃ i : Int, v = .int i ∧ 0 ≤ i ∧ i ≤ 999
  many : rooms.length ≤ 40
def Room.t (r : Room) : Trip := ⟨r.base, r.size, r.mode⟩
theorem Val.sz {rooms : List (Int × Int)} {u : U} (h : Val rooms u) (hl : rooms.length ≤ 1000) (hb : ∀ q ∈ rooms, 0 ≤ q.1 ∧ q.1 ≤ 10000 ∧ 0 ≤ q.2 ∧ q.2 ≤ 10000) : Sz 3 42 u := by
  cases h with
  | num h0 h1 => exact (Sz.num (n := 2) (by omega)).mono (by decide) (by decide)
  | out h0 h1 => exact (Sz.tup (Szs.cons (Sz.num (n := 1) (by decide)) (Szs.cons (Sz.num (by omega)) Szs.nil))).mono (by decide) (by decide)
  | @room w b s i e h0 h1 =>
    have := hb _ (List.mem_of_getElem? e)
    have hw := (List.getElem?_eq_some_iff.mp e).1
    exact (Sz.tup (Szs.cons (Sz.num (n := 1) (i := (w : Int)) (by omega)) (Szs.cons (Sz.num (by dsimp only at this; omega)) Szs.nil))).mono (by decide) (by decide)
theorem Val0.sz {rooms : List (Int × Int)} {u : U} (h : Val0 rooms u) (hl : rooms.length ≤ 1000) (hb : ∀ q ∈ rooms, 0 ≤ q.1 ∧ q.1 ≤ 10000 ∧ 0 ≤ q.2 ∧ q.2 ≤ 10000) : Sz 3 42 u := by
  rcases h with rfl | h
  · exact (Sz.non (n := 2)).mono (by decide) (by decide)
  · exact h.sz hl hb
theorem mode_sz {m : Str} (h : mode3 m) (n : Nat) : Sz (n + 1) 5 (.str m) := by
  rcases h with rfl | rfl | rfl
  · exact Sz.lit "held" (by decide)
  · exact Sz.lit "shown" (by decide)
  · exact Sz.lit "gone" (by decide)
theorem GoodSt.sz {span span' : Int} {rooms : List Room} {regs told : List U} (h : GoodSt span rooms regs told) (h8 : ∀ r ∈ rooms, r.size ≤ 8) (hs : 0 ≤ span' ∧ span' ≤ 10000) : Sz 7 17000 (stU span' rooms regs told) := by
  have hl : (rooms.map fun r => (r.base, r.size)).length ≤ 1000 := by have := h.many; simp; omega
  have hb : ∀ q ∈ (rooms.map fun r => (r.base, r.size)), 0 ≤ q.1 ∧ q.1 ≤ 10000 ∧ 0 ≤ q.2 ∧ q.2 ≤ 10000 := fun q hq => by
    obtain ⟨r, hr, rfl⟩ := List.mem_map.mp hq
    have := h.room r hr
    have := h.sp
    dsimp only
    omega
  have room : ∀ u ∈ rooms.map Room.u, Sz 5 393 u := fun u hu => by
    obtain ⟨r, hr, rfl⟩ := List.mem_map.mp hu
    obtain ⟨b1, b2, b3, b4, b5⟩ := h.room r hr
    obtain ⟨c1, c2, c3⟩ := h.cells r hr
    have sp := h.sp
    have h8' := h8 r hr
    have cl : r.cells.length ≤ 8 := by
      cases e : r.here with
      | false => rw [c1 e]; simp
      | true => have := c2 e; omega
    have cz : Szs 3 (8 * (42 + 1)) r.cells := Szs.all (fun u hu => (c3 u hu).sz hl hb) cl
    exact (Sz.tup (n := 4) (Szs.cons (Sz.num (by omega)) (Szs.cons (Sz.num (by omega)) (Szs.cons (mode_sz b4 3) (Szs.cons (Sz.tup cz) Szs.nil))))).mono (by decide) (by decide)
  have rz : Szs 3 (8 * (42 + 1)) regs := Szs.all (fun u hu => (h.regs.2 u hu).sz hl hb) (by have := h.regs.1; omega)
  have tz : Szs 3 (2 * (20 + 1)) told := Szs.all (fun u hu => by
    obtain ⟨i, rfl, i0, i1⟩ := h.told.2 u hu
    exact Sz.num (by omega)) h.told.1
  have mz := Szs.all room (by simpa using h.many)
  exact (Sz.tup (n := 6) (Szs.cons (Sz.num (by omega)) (Szs.cons (Sz.tup mz) (Szs.cons ((Sz.tup rz).mono (n' := 6) (by decide) (Nat.le_refl _)) (Szs.cons ((Sz.tup tz).mono (n' := 6) (by decide) (Nat.le_refl _)) Szs.nil))))).mono (by decide) (by decide)
end HL

namespace HL
open PySem PySem.Spec PyProof.Rows L2 HA HV
/-! S1: numbers, values, states by draws -/
theorem s_number {X : ExK} {k : U → Prop} (h : ∀ y : Int, 0 ≤ y → y ≤ 999 → k (.int y)) : cal p__law_number [.ref 2] X k () := by
  simp -dsimp [cal, p__law_number, pb__law_number, p__law_draw]
  intro v1 h1 v2 h2 v3 h3 y hy
  simp [Of] at hy
  exact h y (by omega) (by omega)
theorem s_any_value {ts : List Trip} {X : ExK} {k : U → Prop} (ht : ∀ t ∈ ts, 1 ≤ t.size ∧ t.size ≤ 100 ∧ mode3 t.mode) (hl : ts.length ≤ 1000) (h : ∀ y, Val (bs ts) y → k y) : cal p__law_any_value [.ref 2, .lst (ts.map Trip.u)] X k () := by
  have lt := lay_trips fun t h => (ht t h).2.2
  have vn : ∀ neg X kb, vNil neg (ts.map Trip.u) X kb = kb (if ts.map Trip.u = [] then !neg else neg) := fun _ _ _ => lt.vnil
  have last : 0 < ts.length → ∀ (v2 : Nat), v2 < ts.length → ∃ t, ts[v2]? = some t ∧ 1 ≤ t.size ∧ t.size ≤ 100 := fun _ v2 hv => ⟨ts[v2], by simp [hv], (ht _ (List.getElem_mem hv)).1, (ht _ (List.getElem_mem hv)).2.1⟩
  simp -dsimp [cal, p__law_any_value, pb__law_any_value, p__law_draw, vn]
  intro v hv
  split
  · exact s_number fun y h0 h1 => h _ (.num h0 h1)
  split
  · exact s_number fun y h0 h1 => h _ (.num h0 h1)
  rename_i hne
  have pos : 0 < ts.length := List.length_pos_iff.mpr hne
  have tail : (0 < ts.length ∧ (ts.length : Int) < 1809251394333065553493296640760748560207343510400633813116524750123642650624) ∧ ∀ (v : Nat), v < ts.length → ∃ t, ts[v]? = some t ∧ 1 ≤ t.size ∧ t.size ≤ 100 := ⟨⟨pos, by omega⟩, last pos⟩
  split
  · intro v1 hv1
    split
    · refine s_number fun y h0 h1 => ?_
      exact h _ (.out h0 h1)
    · refine ⟨tail.1, fun v2 h2 => ?_⟩
      obtain ⟨t, e, l1, l2⟩ := tail.2 v2 h2
      simp -dsimp [e, Trip.u]
      refine ⟨by omega, fun v3 h3 => ?_⟩
      exact h _ (.room (b := t.base) (s := t.size) (by simp [bs, e]) (by omega) (by omega))
  · refine ⟨tail.1, fun v2 h2 => ?_⟩
    obtain ⟨t, e, l1, l2⟩ := tail.2 v2 h2
    simp -dsimp [e, Trip.u]
    refine ⟨by omega, fun v3 h3 => ?_⟩
    exact h _ (.room (b := t.base) (s := t.size) (by simp [bs, e]) (by omega) (by omega))
end HL
namespace HL
open PySem PySem.Spec PyProof.Rows L2 HA HV
theorem s_state {most : Int} {X : ExK} {k : U → Prop} (hm : 0 ≤ most ∧ most ≤ 40) (h : ∀ span rooms regs told, GoodSt span rooms regs told → (∀ r ∈ rooms, r.size ≤ 8) → (rooms.length : Int) ≤ most → k (stU span rooms regs told)) : cal p__law_state [.ref 2, .int most] X k () := by
  simp -dsimp [cal, p__law_state, pb__law_state, p__law_draw]
  refine ⟨by omega, fun v hv => ⟨by omega, by omega, ?_⟩⟩
  refine forL_goM U.int (I := fun i Γ => ∃ ts a x4 x8 x9 x10, Γ = [some (.ref 2), some (.int most), some (.lst (ts.map Trip.u)), some (.int a), x4, none, none, none, x8, x9, x10, none] ∧ Tr ts a ∧ ts.length = i ∧ 1 ≤ a ∧ a ≤ 1 + 11 * i) ⟨[], 1, none, none, none, none, rfl, Tr.nil, rfl, by omega, by omega⟩ ?_ ?_
  · rintro i y Γ nx bk hi ⟨ts, a, x4, x8, x9, x10, rfl, ht, hl, a1, a2⟩ hn
    have hi' := (List.getElem?_eq_some_iff.mp hi).1
    rw [rng_length] at hi'
    refine ⟨_, rfl, ?_⟩
    simp -dsimp [p__law_draw]
    intro d hd
    have hd' : 3 ≤ d ∧ d ≤ 8 := by simp [Of] at hd; omega
    refine ⟨by omega, fun z hz => ?_⟩
    intro m hm'
    have hm3 : mode3 m := by simp [Of] at hm'; unfold mode3; rcases hm' with h | h | h | h <;> simp [h]
    intro e he f hf
    have hf' : 0 ≤ f ∧ f ≤ 3 := by simp [Of] at hf; omega
    by_cases hg : m = "gone"
    · simp -dsimp [hg]
      refine ⟨by omega, fun w hw => ⟨by omega, ?_⟩⟩
      exact hn _ ⟨ts ++ [⟨1 + w, 1 + z, "gone"⟩], a + f, _, _, _, _, by rw [List.map_append]; rfl, (ht.up (by omega)).gone rfl ⟨by show 1 ≤ 1 + (w : Int); omega, by show 1 + (w : Int) ≤ _; omega⟩ ⟨by show 1 ≤ 1 + (z : Int); omega, by show 1 + (z : Int) ≤ 8; omega⟩, by simp [hl], by omega, by omega⟩
    · simp -dsimp [hg]
      refine ⟨by omega, ?_⟩
      exact hn _ ⟨ts ++ [⟨a + f, 1 + z, m⟩], a + f + (1 + z), _, _, _, _, by rw [List.map_append]; rfl, (ht.up (b := a + f) (by omega)).here hm3 ⟨by show 1 ≤ a + f; omega, by show a + f ≤ a + f; omega⟩ ⟨by show 1 ≤ 1 + (z : Int); omega, by show 1 + (z : Int) ≤ 8; omega⟩ (by show a + f + (1 + (z : Int)) ≤ _; omega), by simp [hl], by omega, by omega⟩
  · rintro Γ ⟨ts, a, x4, x8, x9, x10, rfl, ht, hl, a1, a2⟩
    rw [rng_length] at hl a2
    simp -dsimp [p__law_draw]
    intro n hn
    refine ⟨by omega, by omega, ?_⟩
    refine lcL_each (fun y => ∃ i : Int, y = .int i ∧ 0 ≤ i ∧ i ≤ 999) (fun u hu => ⟨_, rfl, fun k hk => ?_⟩) fun told tl hT => ?_
    · simp -dsimp
      exact s_number fun y h0 h1 => hk _ ⟨y, rfl, h0, h1⟩
    simp -dsimp
    refine ⟨by omega, ?_⟩
    have tv : ∀ t ∈ ts, 1 ≤ t.size ∧ t.size ≤ 100 ∧ mode3 t.mode := fun t h => by have := ht.one t h; exact ⟨this.2.1, by omega, this.2.2.2.1⟩
    -- one value or nothing
    have one : ∀ (n : Int), 0 < n → n < 10 → ∀ (Γ : UEnv) (x1 x3 x4 x5 x6 x7 x8 x9 x10 x11 : Option U) (k : U → Prop), Γ = [some (.ref 2), x1, some (.lst (ts.map Trip.u)), x3, x4, x5, x6, x7, x8, x9, x10, x11] → (∀ y, Val0 (bs ts) y → k y) →
        (v2 (vLst (vaCons (vC .non) (vaCons (vCal (vaCons (vVar 0) (vaCons (vVar 2) vaNil)) p__law_any_value) vaNil))) (v1 (vaCons (vB (v2 (v1 (vaCons (vVar 0) (vaCons (vC (.int n)) vaNil)) p__law_draw) (vC (.int 0)) vGt)) vaNil) HV.vInt) vLIx) Γ XF k := by
      intro n n1 n2 Γ x1 x3 x4 x5 x6 x7 x8 x9 x10 x11 k e hk
      subst e
      simp -dsimp [p__law_draw]
      refine s_any_value tv (by omega) fun y hy => ?_
      simp -dsimp
      refine ⟨⟨n1, by omega⟩, fun w hw => ?_⟩
      by_cases hz : w = 0
      · simp -dsimp [hz]; exact hk _ (.inl rfl)
      · simp -dsimp [show 0 < w by omega]; exact hk _ (.inr hy)
    refine forL_goM Trip.u (I := fun i Γ => ∃ rs x4 x8 x9 x10 x11, Γ = [some (.ref 2), some (.int most), some (.lst (ts.map Trip.u)), some (.int a), x4, some (.tup told), some (.lst (rs.map Room.u)), none, x8, x9, x10, x11] ∧ rs.map Room.t = ts.take i ∧ ∀ r ∈ rs, (r.here = false → r.cells = []) ∧ (r.here = true → (r.cells.length : Int) = r.size) ∧ ∀ c ∈ r.cells, Val0 (bs ts) c) ⟨[], _, _, _, _, _, rfl, rfl, by simp⟩ ?_ ?_
    · rintro i t Γ nx bk hi ⟨rs, x4, x8, x9, x10, x11, rfl, hr, hc⟩ hn
      have hi' := (List.getElem?_eq_some_iff.mp hi).1
      have h1 := ht.one t (List.mem_of_getElem? hi)
      have hrl : rs.length ≤ 40 := by have := congrArg List.length hr; simp at this; omega
      refine ⟨[(10, .int t.base), (8, .int t.size), (9, .str t.mode)], by simp [Trip.u], ?_⟩
      simp -dsimp
      refine ⟨by omega, by omega, ?_⟩
      refine lcL_each (Val0 (bs ts)) (fun u hu => ⟨_, rfl, fun k hk => one 4 (by decide) (by decide) _ _ _ _ _ _ _ _ _ _ _ _ rfl hk⟩) fun cells cl hC => ?_
      simp only [List.length_map, rng_length] at cl
      simp -dsimp
      by_cases hg : t.mode = "gone"
      · simp -dsimp [hg]
        refine ⟨by omega, hn _ ⟨rs ++ [⟨t.base, t.size, "gone", []⟩], _, _, _, _, _, by rw [List.map_append]; rfl, ?_, fun r hr => ?_⟩⟩
        · rw [List.map_append, hr, take_snoc hi]
          simp [Room.t, ← hg]
        · rcases List.mem_append.mp hr with hr | hr
          · exact hc r hr
          · simp only [List.mem_singleton] at hr
            subst hr
            exact ⟨fun _ => rfl, fun z => by simp [Room.here] at z, by simp⟩
      · simp -dsimp [hg]
        refine ⟨by omega, hn _ ⟨rs ++ [⟨t.base, t.size, t.mode, cells⟩], _, _, _, _, _, by rw [List.map_append]; rfl, ?_, fun r hr => ?_⟩⟩
        · rw [List.map_append, hr, take_snoc hi]
          rfl
        · rcases List.mem_append.mp hr with hr | hr
          · exact hc r hr
          · simp only [List.mem_singleton] at hr
            subst hr
            exact ⟨fun z => by simp [Room.here, hg] at z, fun _ => by show (cells.length : Int) = t.size; omega, hC⟩
    · rintro Γ ⟨rs, x4, x8, x9, x10, x11, rfl, hr, hc⟩
      rw [List.take_length] at hr
      simp -dsimp
      refine lcL_each (Val0 (bs ts)) (fun u hu => ⟨_, rfl, fun k hk => one 5 (by decide) (by decide) _ _ _ _ _ _ _ _ _ _ _ _ rfl hk⟩) fun regs rl hR => ?_
      simp -dsimp [p__law_draw]
      intro w hw
      have eb : (rs.map fun r => (r.base, r.size)) = bs ts := by rw [bs, ← hr, List.map_map]; rfl
      have mem : ∀ r ∈ rs, r.t ∈ ts := fun r h => by rw [← hr]; exact List.mem_map_of_mem h
      have len : rs.length = ts.length := by have := congrArg List.length hr; simpa using this
      refine h (a + 9 + w) rs regs told ⟨by omega, fun r hr' => ?_, fun r hr' => ?_, ?_, ⟨by simpa using rl, ?_⟩, ⟨by simp at tl; omega, hT⟩, by omega⟩ (fun r hr' => (ht.one _ (mem r hr')).2.2.1) (by omega)
      · obtain ⟨b1, b2, b3, b4, b5, b6⟩ := ht.one _ (mem r hr')
        refine ⟨b1, b2, by show r.size ≤ 80; have : r.size ≤ 8 := b3; omega, b4, ?_⟩
        have b3' : r.size ≤ 8 := b3
        have b5' : r.base ≤ a := b5
        omega
      · rw [eb]; exact hc r hr'
      · have := ht.apart
        rw [← hr, List.filter_map, List.pairwise_map] at this
        exact this
      · rw [eb]; exact hR
end HL

namespace HL
open PySem PySem.Spec PyProof.Rows L2 HA HV
/-! S3: bases that are right -/
theorem s_end (b s : Int) (r : List U) (X : ExK) (k : U → Prop) : p_end_of [.tup (.int b :: .int s :: r)] X k = k (.int (b + s)) := by
  simp [p_end_of, pb_end_of]
theorem s_here (r : Room) (X : ExK) (k : U → Prop) : p_is_here [r.u] X k = k (.bl r.here) := by
  simp [p_is_here, pb_is_here, Room.u, c_GONE, Room.here]
def okBase (rooms : List Room) (many base : Int) : Bool := (rooms.filter Room.here).all fun r => decide (r.base + r.size ≤ base) || decide (base + many ≤ r.base)
def basesOf (span many : Int) (rooms : List Room) : List Int := (rng 1 (span - many + 1)).filter (okBase rooms many)
theorem s_bases {span many : Int} {rooms : List Room} {regs told : List U} {X : ExK} {k : U → Prop} (hs : 0 ≤ span ∧ span ≤ 10 ^ 6) (hm : 1 ≤ many ∧ many ≤ 10 ^ 6) (hl : rooms.length ≤ 1000) (hk : k (.tup ((basesOf span many rooms).map U.int))) :
    cal p_right_bases [stU span rooms regs told, .int many] X k () := by
  simp -dsimp [cal, p_right_bases, pb_right_bases, stU]
  refine ⟨by omega, ?_⟩
  rw [lcL_map Room.u Room.here Room.u rooms _ _ (fun r _ => ⟨_, rfl, by simp -dsimp [cal, s_here], by simp⟩)]
  simp -dsimp
  refine ⟨by omega, ?_⟩
  refine forL_goM U.int (I := fun i Γ => ∃ x, Γ = [some (stU span rooms regs told), some (.int many), some (.lst ((rooms.filter Room.here).map Room.u)), some (.lst (((rng 1 (span - many + 1)).take i |>.filter (okBase rooms many)).map U.int)), x, some (.int span), some (.tup (rooms.map Room.u)), some (.lst [.tup regs, .tup told]), none]) ⟨none, rfl⟩ ?_ ?_
  · rintro i b Γ nx bk hi ⟨x, rfl⟩ hn
    refine ⟨_, rfl, ?_⟩
    simp -dsimp
    refine ⟨by have := List.length_filter_le Room.here rooms; omega, ?_⟩
    rw [lcL_map1 Room.u (fun r => .bl (decide (r.base + r.size ≤ b) || decide (b + many ≤ r.base))) _ _ _ (fun r _ => ⟨_, rfl, fun k => by
      simp -dsimp [Room.u, cal, s_end]
      by_cases h : r.base + r.size ≤ b <;> simp -dsimp [h]⟩)]
    have hl := List.length_filter_le (okBase rooms many) (List.take i (rng 1 (span - many + 1)))
    rw [List.length_take, rng_length] at hl
    simp -dsimp only [vAll_map, vTruth_bl]
    split
    · rename_i h
      simp -dsimp
      refine ⟨by omega, hn _ ⟨some (.int b), by rw [take_snoc hi]; simp [okBase, h]⟩⟩
    · rename_i h
      exact hn _ ⟨some (.int b), by rw [take_snoc hi]; simp [okBase, h]⟩
  · rintro Γ ⟨x, rfl⟩
    simp -dsimp
    rw [List.take_of_length_le (by rw [rng_length]; omega)]
    exact hk
end HL

namespace HL
open PySem PySem.Spec PyProof.Rows L2 HA HV
/-! S4: what is a state -/
section
variable (X : ExK) (k : U → Prop)
theorem s_whole_int (i : Int) : p_is_whole [.int i] X k = k (.bl true) := by
  simp -dsimp [p_is_whole, pb_is_whole]
theorem s_within (i lo hi : Int) : p_is_within [.int i, .int lo, .int hi] X k = k (.bl (decide (lo ≤ i) && decide (i ≤ hi))) := by
  simp -dsimp [p_is_within, pb_is_within, cal, s_whole_int]
  by_cases h : lo ≤ i <;> simp -dsimp [h]
theorem s_num (i : Int) : p_is_number [.int i] X k = k (.bl (decide (0 ≤ i) && decide (i ≤ 999))) := by
  simp -dsimp [p_is_number, pb_is_number, cal, s_within, c_NUMBERS]
theorem s_num_tup (us : List U) : p_is_number [.tup us] X k = k (.bl false) := by
  simp -dsimp [p_is_number, pb_is_number, cal, p_is_within, pb_is_within, p_is_whole, pb_is_whole, c_NUMBERS, tyIs]
theorem s_addr (w i : Int) : p_is_address [.tup [.int w, .int i]] X k = k (.bl (decide (-1 ≤ w) && (decide (0 ≤ i) && decide (i ≤ 999)))) := by
  simp -dsimp [p_is_address, pb_is_address, cal, s_whole_int, s_num, c_NO_ROOM]
  by_cases h : -1 ≤ w <;> simp -dsimp [h]
theorem s_held {rooms : List (Int × Int)} {u : U} (h : Val0 rooms u) (hr : ∀ q ∈ rooms, 1 ≤ q.1 ∧ 0 ≤ q.2 ∧ q.1 + q.2 ≤ 999) : p_is_held [u] X k = k (.bl true) := by
  rcases h with rfl | h
  · simp -dsimp [p_is_held, pb_is_held]
  · cases h with
    | num h0 h1 => simp -dsimp [p_is_held, pb_is_held, cal, s_num, h0, h1]
    | out h0 h1 => simp -dsimp [p_is_held, pb_is_held, cal, s_num_tup, s_addr, h0, h1]
    | @room w b s i e h0 h1 =>
      have := hr _ (List.mem_of_getElem? e)
      dsimp only at this
      have a : (0 : Int) ≤ i := by omega
      have b : i ≤ 999 := by omega
      have c : (-1 : Int) ≤ w := by omega
      simp -dsimp [p_is_held, pb_is_held, cal, s_num_tup, s_addr, a, b, c]
theorem s_held_all {rooms : List (Int × Int)} {us : List U} {many : Int} (h : ∀ u ∈ us, Val0 rooms u) (hr : ∀ q ∈ rooms, 1 ≤ q.1 ∧ 0 ≤ q.2 ∧ q.1 + q.2 ≤ 999) (hl : us.length ≤ 16777216) (hm : (us.length : Int) = many) : p_are_held [.tup us, .int many] X k = k (.bl true) := by
  simp -dsimp [p_are_held, pb_are_held, hm, hl]
  have := lcL_map1 (vt := tSet 2) (pe := vCal (vaCons (vVar 2) vaNil) p_is_held) (Γ := [some (.tup us), some (.int many), none]) id (fun _ => U.bl true) us (fun a => vAll a X k) () fun u hu => ⟨_, rfl, fun k => by simp -dsimp [cal, s_held _ _ (h u hu) hr]⟩
  rw [List.map_id] at this
  rw [this]
  have e : (us.all fun _ => true) = true := by simp
  simp -dsimp [e]
theorem s_mode {m : Str} (h : mode3 m) (kb : Bool → Prop) : vIn (.str m) (.tup [.str "held", .str "shown", .str "gone"]) X kb = kb true := by
  have f1 : SeqAt.shaped (.str m) = true := by unfold SeqAt.shaped; rw [Bool.and_eq_true]; exact ⟨mode_ok h, rfl⟩
  have f2 : PyData.canLayAll0 [.str "held", .str "shown", .str "gone"] = true := by decide +kernel
  have f3 : ([PyData.str "held", .str "shown", .str "gone"].any fun z => PyData.eqv z (.str m)) = true := by rcases h with rfl | rfl | rfl <;> decide +kernel
  rw [vIn_tup]
  show ((SeqAt.shaped (.str m) = true ∧ PyData.canLayAll0 [.str "held", .str "shown", .str "gone"] = true) ∧ kb ([PyData.str "held", .str "shown", .str "gone"].any fun z => PyData.eqv z (.str m))) = _
  rw [f3]
  simp [f1, f2]
theorem s_room {span : Int} {rooms : List Room} {regs told : List U} (h : GoodSt span rooms regs told) {r : Room} (hr : r ∈ rooms) : p_is_room [r.u, .int span] X k = k (.bl true) := by
  obtain ⟨b1, b2, b3, b4, b5⟩ := h.room r hr
  obtain ⟨c1, c2, c3⟩ := h.cells r hr
  have sp := h.sp
  have hq : ∀ q ∈ (rooms.map fun r => (r.base, r.size)), 1 ≤ q.1 ∧ 0 ≤ q.2 ∧ q.1 + q.2 ≤ 999 := fun q hq => by
    obtain ⟨r, hr, rfl⟩ := List.mem_map.mp hq
    have := h.room r hr
    dsimp only
    omega
  have e : ∀ (X : ExK) (k : U → Prop), p_are_held [.tup r.cells, .int (if r.mode = "gone" then 0 else r.size)] X k = k (.bl true) := fun X k => by
    have hl : r.cells.length ≤ 16777216 := by
      cases z : r.here with
      | false => rw [c1 z]; simp
      | true => have := c2 z; omega
    refine s_held_all X k c3 hq hl ?_
    by_cases z : r.mode = "gone"
    · rw [if_pos z, c1 (by simp [Room.here, z])]; rfl
    · rw [if_neg z, c2 (by simp [Room.here, z])]
  simp -dsimp [p_is_room, pb_is_room, Room.u, cal, s_within, c_PARTS, c_MOST_SIZE, c_MODES, c_GONE]
  have d1 : (1 : Int) ≤ r.size ∧ r.size ≤ 80 := ⟨b2, b3⟩
  have d2 : (1 : Int) ≤ r.base ∧ r.base ≤ span - r.size := ⟨b1, by omega⟩
  rw [if_pos d1, if_pos d2, s_mode _ b4]
  simp -dsimp
  have := e (fun a f => X a f) k
  split at this <;> simp_all
def Room.pr (r : Room) : Int × Int := (r.base, r.base + r.size)
theorem s_apart {rooms : List Room} (hp : (rooms.filter Room.here).Pairwise fun x y => x.base + x.size ≤ y.base) (hs : ∀ r ∈ rooms, 1 ≤ r.size) (hl : rooms.length ≤ 1000) : p_are_apart [.tup (rooms.map Room.u)] X k = k (.bl true) := by
  have hl' := List.length_filter_le Room.here rooms
  simp -dsimp [p_are_apart, pb_are_apart]
  rw [lcL_map Room.u Room.here (fun r => uOfPair r.pr) rooms _ _ (fun r _ => ⟨_, rfl, by simp -dsimp [cal, s_here], fun _ k => by simp -dsimp [cal, Room.u, s_end, uOfPair, Room.pr]⟩)]
  rw [show ((rooms.filter Room.here).map fun r => uOfPair r.pr) = ((rooms.filter Room.here).map Room.pr).map uOfPair by rw [List.map_map]; rfl, vSort_pairs]
  have srt : ((rooms.filter Room.here).map Room.pr).Pairwise fun p q => lexLe p q = true := by
    rw [List.pairwise_map]
    refine (List.pairwise_iff_forall_sublist.mpr fun {a b} h => ?_)
    have h1 := List.pairwise_iff_forall_sublist.mp hp h
    have ha := hs a (List.mem_filter.mp (h.subset List.mem_cons_self)).1
    unfold lexLe Room.pr
    simp only [decide_eq_true_eq]
    omega
  rw [List.mergeSort_of_pairwise srt]
  generalize hps : (rooms.filter Room.here).map Room.pr = ps
  have hlp : ps.length ≤ 1000 := by rw [← hps, List.length_map]; omega
  have pw : ps.Pairwise fun p q => p.2 ≤ q.1 := by rw [← hps, List.pairwise_map]; exact hp
  simp -dsimp
  rw [← List.map_dropLast, ← List.map_tail, zipU_map]
  rw [lcL_map1 (fun p : (Int × Int) × (Int × Int) => U.tup [uOfPair p.1, uOfPair p.2]) (fun p => .bl (decide (p.1.2 ≤ p.2.1))) _ _ _ fun p _ => ⟨_, rfl, fun k => by simp -dsimp [uOfPair]⟩]
  have all : ((ps.dropLast.zip ps.tail).all fun p => decide (p.1.2 ≤ p.2.1)) = true := by
    rw [List.all_eq_true]
    exact fun p hp => decide_eq_true (zip_next (Q := fun p q => p.2 ≤ q.1) pw p hp)
  rw [vAll_map, all]
  have h1 : rooms.length ≤ 16777216 := by omega
  have h2 : (ps.dropLast.zip ps.tail).length ≤ 16777216 := by rw [List.length_zip, List.length_dropLast]; omega
  simp -dsimp [h1] at h2 ⊢
  exact fun _ => h2
theorem s_of_rooms {rooms : List Room} {u : U} (h : Val0 (rooms.map fun r => (r.base, r.size)) u) : p_is_of_rooms [.tup (rooms.map Room.u), u] X k = k (.bl true) := by
  rcases h with rfl | h
  · simp -dsimp [p_is_of_rooms, pb_is_of_rooms]
  · cases h with
    | num h0 h1 => simp -dsimp [p_is_of_rooms, pb_is_of_rooms]
    | out h0 h1 => simp -dsimp [p_is_of_rooms, pb_is_of_rooms]
    | @room w b s i e h0 h1 =>
      rw [List.getElem?_map, Option.map_eq_some_iff] at e
      obtain ⟨r, er, e⟩ := e
      cases e
      have hw := (List.getElem?_eq_some_iff.mp er).1
      have n1 : ¬ ((w : Int) = -1) := by omega
      have n0 : (0 : Int) ≤ w := by omega
      have n2 : (w : Int) < rooms.length := by omega
      have h1' : i ≤ r.base + r.size := h1
      have h0' : r.base ≤ i := h0
      simp -dsimp [p_is_of_rooms, pb_is_of_rooms, n1, n0, n2, er, Room.u, cal, s_end, h0', h1']
theorem sum_le {b : Nat} : ∀ {xs : List Nat}, (∀ x ∈ xs, x ≤ b) → xs.sum ≤ xs.length * b
  | [], _ => Nat.zero_le _
  | x :: xs, h => by
    have := sum_le (xs := xs) fun y hy => h y (List.mem_cons_of_mem _ hy)
    have := h x List.mem_cons_self
    rw [List.sum_cons, List.length_cons, Nat.add_mul]
    omega
theorem s_isstate {span : Int} {rooms : List Room} {regs told : List U} (h : GoodSt span rooms regs told) : p_is_state [stU span rooms regs told] X k = k (.bl true) := by
  have sp := h.sp
  have hm := h.many
  have hq : ∀ q ∈ (rooms.map fun r => (r.base, r.size)), 1 ≤ q.1 ∧ 0 ≤ q.2 ∧ q.1 + q.2 ≤ 999 := fun q hq => by
    obtain ⟨r, hr, rfl⟩ := List.mem_map.mp hq
    have := h.room r hr
    dsimp only
    omega
  have ht : told.length ≤ 16777216 := by have := h.told.1; omega
  have hr : regs.length ≤ 16777216 := by have := h.regs.1; omega
  have hl : rooms.length ≤ 16777216 := by omega
  have hl2 : rooms.length ≤ 4096 := by omega
  simp -dsimp [p_is_state, pb_is_state, stU, c_PARTS, c_LEAST_SPAN, c_MOST_SPAN, c_REGISTERS, cal, s_within, sp, ht, hr, hl, hl2]
  have hs : ∀ r ∈ rooms, 1 ≤ r.size := fun r hr => (h.room r hr).2.1
  have A := fun X k => s_apart X k h.apart hs (by omega)
  have H := fun X k => s_held_all X k h.regs.2 hq hr (many := 8) (by have := h.regs.1; omega)
  rw [lcL_map1 Room.u (fun _ => .bl true) rooms _ _ fun r hr => ⟨_, rfl, fun k => by simp -dsimp [cal, s_room _ _ h hr]⟩, all_yesM]
  have r8 : (Str.ofString "abcdefgh").length = 8 := by decide +kernel
  simp -dsimp [cal, A, H, c_REGISTERS, ht, r8]
  rw [lcL_mapI (vt := tSet 8) (fun _ => .bl true) told _ _ fun u hu => ⟨_, rfl, fun k => by
    obtain ⟨i, rfl, i0, i1⟩ := h.told.2 u hu
    simp -dsimp [cal, s_num, i0, i1]⟩, all_yes]
  simp -dsimp [cal, hl2]
  rw [lcL_map1 (vt := tSet 6) Room.u (fun r => .lst r.cells) rooms _ _ fun r hr => ⟨_, rfl, fun k => by
    have cl : r.cells.length ≤ 80 := by
      obtain ⟨c1, c2, c3⟩ := h.cells r hr
      have := h.room r hr
      cases e : r.here with
      | false => rw [c1 e]; simp
      | true => have := c2 e; omega
    simp -dsimp [Room.u]
    rw [lcL_mapI (vt := tSet 7) id r.cells _ _ fun u hu => ⟨_, rfl, fun k => by simp -dsimp⟩, List.map_id]
    have : r.cells.length ≤ 4096 := by omega
    simp [this]⟩, flatU_map]
  simp -dsimp
  have cl : ∀ r ∈ rooms, r.cells.length ≤ 80 := fun r hr => by
    obtain ⟨c1, c2, c3⟩ := h.cells r hr
    have := h.room r hr
    cases e : r.here with
    | false => rw [c1 e]; simp
    | true => have := c2 e; omega
  have sm : (List.map (List.length ∘ Room.cells) rooms).sum + regs.length ≤ 16777216 := by
    have := sum_le (b := 80) (xs := List.map (List.length ∘ Room.cells) rooms) fun x hx => by
      obtain ⟨r, hr, rfl⟩ := List.mem_map.mp hx
      exact cl r hr
    rw [List.length_map] at this
    have := h.regs.1
    omega
  rw [lcL_mapI (vt := tSet 7) (fun _ => .bl true) _ _ _ fun u hu => ⟨_, rfl, fun k => by
    have hv : Val0 (rooms.map fun r => (r.base, r.size)) u := by
      rcases List.mem_append.mp hu with hu | hu
      · obtain ⟨c, hc, hu⟩ := List.mem_flatten.mp hu
        obtain ⟨r, hr, rfl⟩ := List.mem_map.mp hc
        exact (h.cells r hr).2.2 u hu
      · exact h.regs.2 u hu
    simp -dsimp [cal, s_of_rooms _ _ hv]⟩, all_yes]
  simp [sm]
end
end HL

namespace HL
open PySem PySem.Spec PyProof.Rows L2 HA HV
/-! S5: is_state of whatever lies anyhow -/
def Disj (p q : Int × Int) : Prop := p.2 ≤ q.1 ∨ q.2 ≤ p.1
theorem Disj.symm {p q : Int × Int} (h : Disj p q) : Disj q p := Or.symm h
instance (p q : Int × Int) : Decidable (Disj p q) := inferInstanceAs (Decidable (_ ∨ _))
def apartB (rooms : List Room) : Bool := decide (((rooms.filter Room.here).map Room.pr).Pairwise Disj)
theorem sorted_apart : ∀ {ps : List (Int × Int)}, (∀ p ∈ ps, p.1 < p.2) → ps.Pairwise (fun p q => lexLe p q = true) → ((ps.dropLast.zip ps.tail).all (fun p => decide (p.1.2 ≤ p.2.1)) = true ↔ ps.Pairwise Disj)
  | [], _, _ => by simp
  | [p], _, _ => by simp
  | p :: q :: ps, h, hs => by
    rw [List.pairwise_cons] at hs
    have ih := sorted_apart (ps := q :: ps) (fun x hx => h x (List.mem_cons_of_mem _ hx)) hs.2
    rw [List.dropLast_cons₂, List.tail_cons, List.zip_cons_cons, List.all_cons, Bool.and_eq_true, decide_eq_true_eq, List.pairwise_cons]
    have hq := h q (List.mem_cons_of_mem _ List.mem_cons_self)
    have hp := h p List.mem_cons_self
    constructor
    · rintro ⟨h1, h2⟩
      have h1 : p.2 ≤ q.1 := h1
      have pw := ih.mp (by simpa using h2)
      refine ⟨fun x hx => ?_, pw⟩
      rcases List.mem_cons.mp hx with rfl | hx'
      · exact .inl h1
      · have a := (List.pairwise_cons.mp hs.2).1 x hx'
        unfold lexLe at a
        simp only [decide_eq_true_eq] at a
        exact .inl (by omega)
    · rintro ⟨h1, h2⟩
      refine ⟨?_, by simpa using ih.mpr h2⟩
      have a := hs.1 q List.mem_cons_self
      unfold lexLe at a
      simp only [decide_eq_true_eq] at a
      show p.2 ≤ q.1
      rcases h1 q List.mem_cons_self with z | z
      · exact z
      · omega
section
variable (X : ExK) (k : U → Prop)
theorem s_apartB {rooms : List Room} (hs : ∀ r ∈ rooms, 1 ≤ r.size) (hl : rooms.length ≤ 1000) : p_are_apart [.tup (rooms.map Room.u)] X k = k (.bl (apartB rooms)) := by
  have hl' := List.length_filter_le Room.here rooms
  simp -dsimp [p_are_apart, pb_are_apart]
  rw [lcL_map Room.u Room.here (fun r => uOfPair r.pr) rooms _ _ (fun r _ => ⟨_, rfl, by simp -dsimp [cal, s_here], fun _ k => by simp -dsimp [cal, Room.u, s_end, uOfPair, Room.pr]⟩)]
  rw [show ((rooms.filter Room.here).map fun r => uOfPair r.pr) = ((rooms.filter Room.here).map Room.pr).map uOfPair by rw [List.map_map]; rfl, vSort_pairs]
  have hpr : ∀ p ∈ (rooms.filter Room.here).map Room.pr, p.1 < p.2 := fun p hp => by
    obtain ⟨r, hr, rfl⟩ := List.mem_map.mp hp
    have := hs r (List.mem_filter.mp hr).1
    show r.base < r.base + r.size
    omega
  unfold apartB
  generalize hps : (rooms.filter Room.here).map Room.pr = ps at hpr
  have hlp : ps.length ≤ 1000 := by rw [← hps, List.length_map]; omega
  have perm := List.mergeSort_perm ps lexLe
  have srt := List.pairwise_mergeSort (le := lexLe) (fun a b c => lexLe_t a b c) (fun a b => lexLe_o a b) ps
  have hq : ∀ p ∈ ps.mergeSort lexLe, p.1 < p.2 := fun p hp => hpr p (perm.mem_iff.mp hp)
  have key := sorted_apart hq srt
  have pp : (ps.mergeSort lexLe).Pairwise Disj ↔ ps.Pairwise Disj := perm.pairwise_iff fun h => h.symm
  have hlq : (ps.mergeSort lexLe).length = ps.length := perm.length_eq
  generalize ps.mergeSort lexLe = qs at *
  simp -dsimp
  rw [← List.map_dropLast, ← List.map_tail, zipU_map]
  rw [lcL_map1 (fun p : (Int × Int) × (Int × Int) => U.tup [uOfPair p.1, uOfPair p.2]) (fun p => .bl (decide (p.1.2 ≤ p.2.1))) _ _ _ fun p _ => ⟨_, rfl, fun k => by simp -dsimp [uOfPair]⟩]
  rw [vAll_map]
  have eb : ((qs.dropLast.zip qs.tail).all fun p => decide (p.1.2 ≤ p.2.1)) = decide (ps.Pairwise Disj) := by
    rw [Bool.eq_iff_iff, key, pp, decide_eq_true_eq]
  rw [eb]
  have h1 : rooms.length ≤ 16777216 := by omega
  have h2 : (qs.dropLast.zip qs.tail).length ≤ 16777216 := by rw [List.length_zip, List.length_dropLast]; omega
  simp -dsimp [h1] at h2 ⊢
  exact fun _ => by omega
end
theorem Val0.mono {a b : List (Int × Int)} (h : a <+: b) {u : U} (v : Val0 a u) : Val0 b u := by
  rcases v with rfl | v
  · exact .inl rfl
  · cases v with
    | num h0 h1 => exact .inr (.num h0 h1)
    | out h0 h1 => exact .inr (.out h0 h1)
    | room e h0 h1 => exact .inr (.room (List.prefix_iff_getElem?.mp h _ (List.getElem?_eq_some_iff.mp e).1 ▸ (by rw [List.getElem?_eq_some_iff.mp e |>.2])) h0 h1)
/-- a state but for where its rooms lie -/
structure PreSt (olds : List (Int × Int)) (span : Int) (rooms : List Room) (regs told : List U) : Prop where
  sp : 2 ≤ span ∧ span ≤ 999
  room : ∀ r ∈ rooms, 1 ≤ r.size ∧ r.size ≤ 80 ∧ mode3 r.mode
  cells : ∀ r ∈ rooms, (r.here = false → r.cells = []) ∧ (r.here = true → (r.cells.length : Int) = r.size) ∧ ∀ c ∈ r.cells, Val0 olds c
  regs : regs.length = 8 ∧ ∀ v ∈ regs, Val0 olds v
  told : told.length ≤ 2 ∧ ∀ v ∈ told, ∃ i : Int, v = .int i ∧ 0 ≤ i ∧ i ≤ 999
  many : rooms.length ≤ 40
  pre : olds <+: rooms.map fun r => (r.base, r.size)
  old : ∀ q ∈ olds, 1 ≤ q.1 ∧ 0 ≤ q.2 ∧ q.1 + q.2 ≤ 999
def inSpan (span : Int) (r : Room) : Bool := decide (1 ≤ r.base) && decide (r.base ≤ span - r.size)
section
variable (X : ExK) (k : U → Prop)
theorem PreSt.cl {olds : List (Int × Int)} {span : Int} {rooms : List Room} {regs told : List U} (h : PreSt olds span rooms regs told) {r : Room} (hr : r ∈ rooms) : r.cells.length ≤ 80 := by
  obtain ⟨c1, c2, c3⟩ := h.cells r hr
  have := h.room r hr
  cases e : r.here with
  | false => rw [c1 e]; simp
  | true => have := c2 e; omega
theorem s_roomG {olds : List (Int × Int)} {span : Int} {rooms : List Room} {regs told : List U} (h : PreSt olds span rooms regs told) {r : Room} (hr : r ∈ rooms) : p_is_room [r.u, .int span] X k = k (.bl (inSpan span r)) := by
  obtain ⟨b2, b3, b4⟩ := h.room r hr
  obtain ⟨c1, c2, c3⟩ := h.cells r hr
  have e : ∀ (X : ExK) (k : U → Prop), p_are_held [.tup r.cells, .int (if r.mode = "gone" then 0 else r.size)] X k = k (.bl true) := fun X k => by
    refine s_held_all X k c3 h.old (by have := h.cl hr; omega) ?_
    by_cases z : r.mode = "gone"
    · rw [if_pos z, c1 (by simp [Room.here, z])]; rfl
    · rw [if_neg z, c2 (by simp [Room.here, z])]
  simp -dsimp [p_is_room, pb_is_room, Room.u, cal, s_within, c_PARTS, c_MOST_SIZE, c_MODES, c_GONE]
  have d1 : (1 : Int) ≤ r.size ∧ r.size ≤ 80 := ⟨b2, b3⟩
  rw [if_pos d1, s_mode _ b4]
  simp -dsimp
  have := e (fun a f => X a f) k
  unfold inSpan
  by_cases d2 : (1 : Int) ≤ r.base ∧ r.base ≤ span - r.size
  · rw [if_pos d2]
    simp only [d2.1, d2.2, decide_true, Bool.and_self]
    split at this <;> simp_all
  · rw [if_neg d2]
    have : (decide ((1 : Int) ≤ r.base) && decide (r.base ≤ span - r.size)) = false := by
      rw [← Bool.not_eq_true, Bool.and_eq_true, decide_eq_true_eq, decide_eq_true_eq]; exact d2
    rw [this]
theorem s_stateG {olds : List (Int × Int)} {span : Int} {rooms : List Room} {regs told : List U} (h : PreSt olds span rooms regs told) : p_is_state [stU span rooms regs told] X k = k (.bl (rooms.all (inSpan span) && apartB rooms)) := by
  have sp := h.sp
  have hm := h.many
  have ht : told.length ≤ 16777216 := by have := h.told.1; omega
  have hr : regs.length ≤ 16777216 := by have := h.regs.1; omega
  have hl : rooms.length ≤ 16777216 := by omega
  have hl2 : rooms.length ≤ 4096 := by omega
  have hs : ∀ r ∈ rooms, 1 ≤ r.size := fun r hr => (h.room r hr).1
  have A := fun X k => s_apartB X k hs (by omega)
  have H := fun X k => s_held_all X k h.regs.2 h.old hr (many := 8) (by have := h.regs.1; omega)
  have r8 : (Str.ofString "abcdefgh").length = 8 := by decide +kernel
  simp -dsimp [p_is_state, pb_is_state, stU, c_PARTS, c_LEAST_SPAN, c_MOST_SPAN, c_REGISTERS, cal, s_within, sp, ht, hr, hl, hl2]
  rw [lcL_map1 Room.u (fun r => .bl (inSpan span r)) rooms _ _ fun r hr => ⟨_, rfl, fun k => by simp -dsimp [cal, s_roomG _ _ h hr]⟩]
  rw [vAll_map]
  cases ei : rooms.all (inSpan span) with
  | false => simp -dsimp
  | true =>
    simp -dsimp [cal, A]
    cases ea : apartB rooms with
    | false => simp -dsimp
    | true =>
      simp -dsimp [cal, H, c_REGISTERS, ht, r8]
      rw [lcL_mapI (vt := tSet 8) (fun _ => .bl true) told _ _ fun u hu => ⟨_, rfl, fun k => by
        obtain ⟨i, rfl, i0, i1⟩ := h.told.2 u hu
        simp -dsimp [cal, s_num, i0, i1]⟩, all_yes]
      simp -dsimp [cal, hl2]
      rw [lcL_map1 (vt := tSet 6) Room.u (fun r => .lst r.cells) rooms _ _ fun r hr => ⟨_, rfl, fun k => by
        have cl := h.cl hr
        simp -dsimp [Room.u]
        rw [lcL_mapI (vt := tSet 7) id r.cells _ _ fun u hu => ⟨_, rfl, fun k => by simp -dsimp⟩, List.map_id]
        have : r.cells.length ≤ 4096 := by omega
        simp [this]⟩, flatU_map]
      simp -dsimp
      have sm : (List.map (List.length ∘ Room.cells) rooms).sum + regs.length ≤ 16777216 := by
        have := sum_le (b := 80) (xs := List.map (List.length ∘ Room.cells) rooms) fun x hx => by
          obtain ⟨r, hr, rfl⟩ := List.mem_map.mp hx
          exact h.cl hr
        rw [List.length_map] at this
        have := h.regs.1
        omega
      rw [lcL_mapI (vt := tSet 7) (fun _ => .bl true) _ _ _ fun u hu => ⟨_, rfl, fun k => by
        have hv : Val0 olds u := by
          rcases List.mem_append.mp hu with hu | hu
          · obtain ⟨c, hc, hu⟩ := List.mem_flatten.mp hu
            obtain ⟨r, hr, rfl⟩ := List.mem_map.mp hc
            exact (h.cells r hr).2.2 u hu
          · exact h.regs.2 u hu
        simp -dsimp [cal, s_of_rooms _ _ (hv.mono h.pre)]⟩, all_yes]
      simp [sm]
end
end HL

namespace HL
open PySem PySem.Spec PyProof.Rows L2 HA HV
def newR (b m : Int) : Room := ⟨b, m, "held", List.replicate m.toNat .non⟩
def goneR (b m : Int) : Room := ⟨b, m, "gone", []⟩
theorem newR_here (b m : Int) : (newR b m).here = true := rfl
theorem goneR_here (b m : Int) : (goneR b m).here = false := rfl
theorem okBase_new (rooms : List Room) (b m size x : Int) : okBase (rooms ++ [newR b m]) size x = (okBase rooms size x && (decide (b + m ≤ x) || decide (x + size ≤ b))) := by
  unfold okBase
  rw [List.filter_append, List.all_append]
  simp only [List.filter_cons, newR_here, if_true, List.filter_nil, List.all_cons, List.all_nil, Bool.and_true]
  rfl
theorem bases_new (span : Int) (rooms : List Room) (b m size : Int) : basesOf span size (rooms ++ [newR b m]) = (basesOf span size rooms).filter fun x => decide (x + size ≤ b) || decide (b + m ≤ x) := by
  unfold basesOf
  rw [List.filter_filter]
  congr 1
  funext x
  rw [okBase_new, Bool.or_comm, Bool.and_comm]
theorem bases_gone (span : Int) (rooms : List Room) (b m size : Int) : basesOf span size (rooms ++ [goneR b m]) = basesOf span size rooms := by
  unfold basesOf okBase
  rw [List.filter_append]
  simp [goneR_here]
theorem bases_wide {span m : Int} (rooms : List Room) : ((basesOf (span + 9) m rooms).filter fun b => decide (b + m ≤ span)) = basesOf span m rooms := by
  unfold basesOf
  rw [List.filter_filter, ← rng_below (a := 1) (b := span - m + 1) (c := span + 9 - m + 1) (by omega) (p := fun b => decide (b + m ≤ span)) (fun x _ => by rw [Bool.eq_iff_iff]; simp only [decide_eq_true_eq]; omega), List.filter_filter]
  congr 1
  funext x
  rw [Bool.and_comm]
theorem apart_new {rooms : List Room} {b m : Int} (h : apartB rooms = true) : apartB (rooms ++ [newR b m]) = okBase rooms m b := by
  unfold apartB at h ⊢
  rw [decide_eq_true_eq] at h
  rw [Bool.eq_iff_iff, decide_eq_true_eq, List.filter_append, List.map_append, List.pairwise_append]
  unfold okBase
  rw [List.all_eq_true]
  have e : ([newR b m].filter Room.here).map Room.pr = [(b, b + m)] := rfl
  rw [e]
  constructor
  · rintro ⟨_, _, h3⟩ r hr
    have := h3 r.pr (List.mem_map_of_mem hr) _ (List.mem_singleton.mpr rfl)
    rw [Bool.or_eq_true, decide_eq_true_eq, decide_eq_true_eq]
    exact this
  · intro h2
    refine ⟨h, List.pairwise_singleton _ _, fun p hp q hq => ?_⟩
    obtain ⟨r, hr, rfl⟩ := List.mem_map.mp hp
    rw [List.mem_singleton] at hq
    subst hq
    have := h2 r hr
    rw [Bool.or_eq_true, decide_eq_true_eq, decide_eq_true_eq] at this
    exact this
theorem apart_gone {rooms : List Room} {b m : Int} (h : apartB rooms = true) : apartB (rooms ++ [goneR b m]) = true := by
  unfold apartB at h ⊢
  rw [List.filter_append]
  simpa [goneR_here] using h
theorem right_iff {span b m : Int} {rooms : List Room} (hi : rooms.all (inSpan span) = true) (ha : apartB rooms = true) : ((rooms ++ [newR b m]).all (inSpan span) && apartB (rooms ++ [newR b m])) = decide (b ∈ basesOf span m rooms) := by
  rw [List.all_append, hi, apart_new ha, Bool.eq_iff_iff, decide_eq_true_eq]
  unfold basesOf
  rw [List.mem_filter, mem_rng]
  simp only [List.all_cons, List.all_nil, Bool.and_true, Bool.true_and, Bool.and_eq_true, inSpan, newR, decide_eq_true_eq]
  constructor
  · rintro ⟨h1, h2⟩; exact ⟨by omega, h2⟩
  · rintro ⟨h1, h2⟩; exact ⟨by omega, h2⟩
theorem PreSt.new {olds : List (Int × Int)} {span : Int} {rooms : List Room} {regs told : List U} (h : PreSt olds span rooms regs told) {b m : Int} (hm : 1 ≤ m ∧ m ≤ 80) (hl : rooms.length < 40) : PreSt olds span (rooms ++ [newR b m]) regs told where
  sp := h.sp
  room := fun r hr => by
    rcases List.mem_append.mp hr with hr | hr
    · exact h.room r hr
    · rw [List.mem_singleton] at hr; subst hr; exact ⟨hm.1, hm.2, .inl rfl⟩
  cells := fun r hr => by
    rcases List.mem_append.mp hr with hr | hr
    · exact h.cells r hr
    · rw [List.mem_singleton] at hr
      subst hr
      refine ⟨fun e => by simp [newR_here] at e, fun _ => ?_, fun c hc => ?_⟩
      · show ((List.replicate m.toNat U.non).length : Int) = m
        rw [List.length_replicate]; omega
      · exact .inl (List.mem_replicate.mp (show c ∈ List.replicate m.toNat U.non from hc)).2
  regs := h.regs
  told := h.told
  many := by rw [List.length_append, List.length_singleton]; omega
  pre := by rw [List.map_append]; exact h.pre.trans (List.prefix_append _ _)
  old := h.old
theorem PreSt.gone {olds : List (Int × Int)} {span : Int} {rooms : List Room} {regs told : List U} (h : PreSt olds span rooms regs told) {b m : Int} (hm : 1 ≤ m ∧ m ≤ 80) (hl : rooms.length < 40) : PreSt olds span (rooms ++ [goneR b m]) regs told where
  sp := h.sp
  room := fun r hr => by
    rcases List.mem_append.mp hr with hr | hr
    · exact h.room r hr
    · rw [List.mem_singleton] at hr; subst hr; exact ⟨hm.1, hm.2, .inr (.inr rfl)⟩
  cells := fun r hr => by
    rcases List.mem_append.mp hr with hr | hr
    · exact h.cells r hr
    · rw [List.mem_singleton] at hr
      subst hr
      exact ⟨fun _ => rfl, fun e => by simp [goneR_here] at e, fun c hc => by simp [goneR] at hc⟩
  regs := h.regs
  told := h.told
  many := by rw [List.length_append, List.length_singleton]; omega
  pre := by rw [List.map_append]; exact h.pre.trans (List.prefix_append _ _)
  old := h.old
/-- a state as it comes about here -/
structure I18 (n : Nat) (span : Int) (rooms : List Room) (regs told : List U) : Prop where
  pre : ∃ olds, PreSt olds span rooms regs told
  ins : rooms.all (inSpan span) = true
  apart : apartB rooms = true
  len : rooms.length ≤ n
theorem I18.new {n : Nat} {span : Int} {rooms : List Room} {regs told : List U} (h : I18 n span rooms regs told) (hn : n < 40) {b m : Int} (hm : 1 ≤ m ∧ m ≤ 80) (hb : b ∈ basesOf span m rooms) : I18 (n + 1) span (rooms ++ [newR b m]) regs told := by
  obtain ⟨⟨olds, p⟩, hi, ha, hl⟩ := h
  have := right_iff (b := b) (m := m) hi ha
  rw [decide_eq_true hb, Bool.and_eq_true] at this
  exact ⟨⟨olds, p.new hm (by omega)⟩, this.1, this.2, by rw [List.length_append, List.length_singleton]; omega⟩
theorem I18.gone {n : Nat} {span : Int} {rooms : List Room} {regs told : List U} (h : I18 n span rooms regs told) (hn : n < 40) {b m : Int} (hm : 1 ≤ m ∧ m ≤ 80) (hb : b ∈ basesOf span m rooms) : I18 (n + 1) span (rooms ++ [goneR b m]) regs told := by
  have hw := (h.new hn hm hb).ins
  obtain ⟨⟨olds, p⟩, hi, ha, hl⟩ := h
  refine ⟨⟨olds, p.gone hm (by omega)⟩, ?_, apart_gone ha, by rw [List.length_append, List.length_singleton]; omega⟩
  rw [List.all_append] at hw ⊢
  exact hw
theorem I18.good {n : Nat} {span : Int} {rooms : List Room} {regs told : List U} (h : GoodSt span rooms regs told) (hl : rooms.length ≤ n) : I18 n span rooms regs told where
  pre := ⟨rooms.map fun r => (r.base, r.size), h.sp, fun r hr => by have := h.room r hr; exact ⟨this.2.1, this.2.2.1, this.2.2.2.1⟩, h.cells, h.regs, h.told, h.many, List.prefix_refl _, fun q hq => by
    obtain ⟨r, hr, rfl⟩ := List.mem_map.mp hq
    have := h.room r hr
    have := h.sp
    dsimp only
    omega⟩
  ins := by
    rw [List.all_eq_true]
    intro r hr
    have := h.room r hr
    unfold inSpan
    rw [Bool.and_eq_true, decide_eq_true_eq, decide_eq_true_eq]
    omega
  apart := by
    unfold apartB
    rw [decide_eq_true_eq, List.pairwise_map]
    exact h.apart.imp fun h => .inl h
  len := hl
section
variable (X : ExK) (k : U → Prop)
theorem s_heldat {span : Int} {rooms : List Room} {regs told : List U} {b m : Int} (hm : 1 ≤ m ∧ m ≤ 80) (hl : rooms.length ≤ 1000) : p__law_held_at [stU span rooms regs told, .int b, .int m] X k = k (stU span (rooms ++ [newR b m]) regs told) := by
  have h1 : 1 ≤ m ∧ m ≤ 1000 := by omega
  have h2 : rooms.length ≤ 16777215 := by omega
  simp -dsimp [p__law_held_at, pb__law_held_at, stU, newR, Room.u]
  simp [h1, h2, Room.u]
theorem s_goneat {span : Int} {rooms : List Room} {regs told : List U} {b m : Int} (hl : rooms.length ≤ 1000) : p__law_gone_at [stU span (rooms ++ [newR b m]) regs told, .int rooms.length] X k = k (stU span (rooms ++ [goneR b m]) regs told) := by
  have h2 : rooms.length ≤ 16777215 := by omega
  have c1 : ∀ r : U, HA.cut (rooms.map Room.u ++ [r]) (some ((rooms.length : Int) + 1)) none = [] := fun r => by
    rw [cut_from _ _ (by omega)]
    exact List.drop_of_length_le (by simp)
  simp -dsimp [p__law_gone_at, pb__law_gone_at, stU, newR, Room.u, goneR, c1]
  simp [h2, Room.u]
end
theorem bl_repr (b : Bool) (X : ExK) (k : U → Prop) : vRepr [.bl b] X k = k (.str (shw (.bl b))) := (Sz.bl (n := 0)).repr
theorem s_isright {n : Nat} {span : Int} {rooms : List Room} {regs told : List U} {m : Int} {X : ExK} {k : U → Prop} (h : I18 n span rooms regs told) (hn : n < 40) (hm : 1 ≤ m ∧ m ≤ 8) (hk : k (.bl true)) : cal p__law_is_right [stU span rooms regs told, .int m] X k () := by
  obtain ⟨⟨olds, p⟩, hi, ha, hl⟩ := h
  have sp := p.sp
  simp -dsimp [cal, p__law_is_right, pb__law_is_right]
  refine s_bases (by omega) (by omega) (by omega) ?_
  simp -dsimp [stU]
  refine ⟨by omega, ?_⟩
  refine forL_goM U.int (I := fun i Γ => ∃ x3, Γ = [some (stU span rooms regs told), some (.int m), some (.tup ((basesOf span m rooms).map U.int)), x3]) ⟨_, rfl⟩ ?_ ?_
  · rintro i b Γ nx bk hb ⟨x3, rfl⟩ hn
    refine ⟨_, rfl, ?_⟩
    have S : ∀ (X : ExK) (k : U → Prop), p_is_state [stU span (rooms ++ [newR b m]) regs told] X k = k (.bl (decide (b ∈ basesOf span m rooms))) := fun X k => by
      rw [s_stateG _ _ (p.new (b := b) (show 1 ≤ m ∧ m ≤ 80 by omega) (by omega)), right_iff hi ha]
    simp -dsimp [cal, s_heldat _ _ (show 1 ≤ m ∧ m ≤ 80 by omega) (show rooms.length ≤ 1000 by omega), S, vIn_ints, bl_repr]
    exact hn _ ⟨_, rfl⟩
  · rintro Γ ⟨x3, rfl⟩
    simp -dsimp [hk]
theorem s_behind {n : Nat} {span : Int} {rooms : List Room} {regs told : List U} {b m size : Int} {X : ExK} {k : U → Prop} (h : I18 n span rooms regs told) (hn : n < 40) (hm : 1 ≤ m ∧ m ≤ 8) (hs : 1 ≤ size ∧ size ≤ 8) (hk : k (.bl true)) : cal p__law_behind_right [stU span rooms regs told, .int b, .int m, .int size] X k () := by
  obtain ⟨⟨olds, p⟩, hi, ha, hl⟩ := h
  have sp := p.sp
  simp -dsimp [cal, p__law_behind_right, pb__law_behind_right, s_heldat _ _ (show 1 ≤ m ∧ m ≤ 80 by omega) (show rooms.length ≤ 1000 by omega)]
  refine s_bases (by omega) (by omega) (by rw [List.length_append, List.length_singleton]; omega) ?_
  rw [bases_new]
  refine s_bases (by omega) (by omega) (by omega) ?_
  have lb : (basesOf span size rooms).length ≤ 16777216 := by
    unfold basesOf
    exact Nat.le_trans (List.length_filter_le _ _) (by rw [rng_length]; omega)
  simp -dsimp [lb]
  rw [lcL_map (vt := tSet 6) U.int (fun x => decide (x + size ≤ b) || decide (b + m ≤ x)) U.int _ _ _ fun x _ => ⟨_, rfl, fun k => by
    simp -dsimp
    by_cases h : x + size ≤ b <;> simp -dsimp [h], fun _ k => by simp -dsimp⟩]
  simp -dsimp [vEq_ints, hk]
theorem bases_len {span size : Int} {rooms : List Room} (h : span ≤ 2000) (h2 : 1 ≤ size) : (basesOf span size rooms).length ≤ 16777216 := by
  unfold basesOf
  exact Nat.le_trans (List.length_filter_le _ _) (by rw [rng_length]; omega)
theorem wide_in {span m : Int} {rooms : List Room} (hi : rooms.all (inSpan span) = true) (hm : 1 ≤ m ∧ m ≤ 8) (hs : 2 ≤ span) : (span + 9 - m) ∈ basesOf (span + 9) m rooms := by
  unfold basesOf okBase
  rw [List.mem_filter, mem_rng, List.all_eq_true]
  refine ⟨by omega, fun r hr => ?_⟩
  have := List.all_eq_true.mp hi r (List.mem_filter.mp hr).1
  unfold inSpan at this
  rw [Bool.and_eq_true, decide_eq_true_eq, decide_eq_true_eq] at this
  rw [Bool.or_eq_true, decide_eq_true_eq]
  left
  omega
theorem s_wider {n : Nat} {span : Int} {rooms : List Room} {regs told : List U} {m : Int} {X : ExK} {k : U → Prop} (h : I18 n span rooms regs told) (hn : n < 40) (hm : 1 ≤ m ∧ m ≤ 8) (hk : k (.bl true)) : cal p__law_wider_right [stU span rooms regs told, .int m] X k () := by
  obtain ⟨⟨olds, p⟩, hi, ha, hl⟩ := h
  have sp := p.sp
  have e9 : U.tup [.int (span + 9), .tup (rooms.map Room.u), .tup regs, .tup told] = stU (span + 9) rooms regs told := rfl
  have e0 : U.tup [.int span, .tup (rooms.map Room.u), .tup regs, .tup told] = stU span rooms regs told := rfl
  simp -dsimp [cal, p__law_wider_right, pb__law_wider_right, stU]
  simp -dsimp only [e9, e0]
  refine s_bases (by omega) (by omega) (by omega) ?_
  refine s_bases (by omega) (by omega) (by omega) ?_
  have lb := bases_len (span := span + 9) (size := m) (rooms := rooms) (by omega) hm.1
  simp -dsimp [lb, stU]
  rw [lcL_map (vt := tSet 5) U.int (fun x => decide (x + m ≤ span)) U.int _ _ _ fun x _ => ⟨_, rfl, fun k => by simp -dsimp, fun _ k => by simp -dsimp⟩, bases_wide]
  simp -dsimp [vEq_ints]
  simp -dsimp only [e9, e0]
  refine s_bases (by omega) (by omega) (by omega) ?_
  rw [vIn_ints, decide_eq_true (wide_in hi hm sp.1)]
  simp -dsimp [hk]
def non8 : List U := [.non, .non, .non, .non, .non, .non, .non, .non]
theorem good0 {w : Int} (h : 2 ≤ w ∧ w ≤ 60) : GoodSt w [] non8 [] := ⟨by omega, by simp, by simp, by simp, ⟨rfl, fun v hv => by simp [non8] at hv; exact .inl hv⟩, by simp, by simp⟩
theorem s_first {w : Int} (X : ExK) (k : U → Prop) : p_first_state [.int w] X k = k (stU w [] non8 []) := by
  have r8 : (Str.ofString "abcdefgh").length = 8 := by decide +kernel
  simp -dsimp [p_first_state, pb_first_state, c_REGISTERS, r8, stU, non8]
theorem s_pick {us : List U} {X : ExK} {k : U → Prop} (h0 : us ≠ []) (hl : us.length ≤ 16777216) (h : ∀ u ∈ us, k u) : cal p__law_pick [.ref 2, .tup us] X k () := by
  have := List.length_pos_iff.mpr h0
  simp -dsimp [cal, p__law_pick, pb__law_pick, p__law_draw, hl]
  refine ⟨by omega, fun v hv => ?_⟩
  have hv' : v < us.length := by omega
  simp -dsimp [hv']
  exact h _ (List.getElem_mem _)
theorem law_p : pb_law (none :: some (.ref 2) :: List.replicate 9 none) TrueK := by
  simp -dsimp [pb_law, TrueK, p__law_draw]
  intro v hv
  have st : ∀ (k : U → Prop), (∀ span rooms regs told, I18 6 span rooms regs told → k (stU span rooms regs told)) → (if (v : Int) = 1 then cal p__law_state [.ref 2, .int 6] (fun a f => False) k () else aD 30 (fun u => vAdd (.int 2) u (fun a f => False) fun u => cal p_first_state [u] (fun a f => False) k ()) ()) := fun k hk => by
    split
    · exact s_state (by decide) fun span rooms regs told g h8 hl => hk _ _ _ _ (I18.good g (by omega))
    · simp -dsimp [cal, s_first]
      intro w hw
      exact hk _ _ _ _ (I18.good (good0 (by omega)) (by simp))
  refine st _ fun span rooms regs told I0 => ?_
  simp -dsimp
  intro t ht
  refine ⟨by omega, by omega, ?_⟩
  refine forL_goM U.int (I := fun i Γ => ∃ span rooms regs told x2 x4 x5 x6 x7 x8 x9 x10, Γ = [none, some (.ref 2), x2, some (stU span rooms regs told), x4, x5, x6, x7, x8, x9, x10] ∧ I18 (6 + i) span rooms regs told) ⟨_, _, _, _, _, _, _, _, _, _, _, _, rfl, I0⟩ ?_ ?_
  · rintro i y Γ nx bk hi ⟨span, rooms, regs, told, x2, x4, x5, x6, x7, x8, x9, x10, rfl, I⟩ hn
    have hi' := (List.getElem?_eq_some_iff.mp hi).1
    rw [rng_length] at hi'
    have hn40 : 6 + i < 40 := by omega
    obtain ⟨olds, p⟩ := I.pre
    have sp := p.sp
    have hl := I.len
    refine ⟨_, rfl, ?_⟩
    simp -dsimp
    intro a ha b hb g hg
    refine s_bases (by omega) (by omega) (by omega) ?_
    simp -dsimp
    have ma : 1 ≤ 1 + (a : Int) ∧ 1 + (a : Int) ≤ 8 := by omega
    have mb : 1 ≤ 1 + (b : Int) ∧ 1 + (b : Int) ≤ 8 := by omega
    refine s_isright I hn40 ma ?_
    simp -dsimp
    refine s_wider I hn40 ma ?_
    simp -dsimp
    by_cases hb0 : basesOf span (1 + (a : Int)) rooms = []
    · simp -dsimp [hb0]
      exact hn _ ⟨span, rooms, regs, told, _, _, _, _, _, _, _, _, rfl, ⟨I.pre, I.ins, I.apart, by omega⟩⟩
    · simp -dsimp [hb0]
      refine s_pick (by simpa using hb0) (by rw [List.length_map]; exact bases_len (by omega) (by omega)) fun u hu => ?_
      obtain ⟨base, hbase, rfl⟩ := List.mem_map.mp hu
      simp -dsimp
      refine s_behind I hn40 ma mb ?_
      simp -dsimp
      refine s_bases (by omega) (by omega) (by omega) ?_
      simp -dsimp [cal, s_heldat _ _ (show 1 ≤ 1 + (a : Int) ∧ 1 + (a : Int) ≤ 80 by omega) (show rooms.length ≤ 1000 by omega)]
      have In := I.new hn40 (b := base) (m := 1 + (a : Int)) (by omega) hbase
      have Ig := I.gone hn40 (b := base) (m := 1 + (a : Int)) (by omega) hbase
      have ll : ((rooms.length : Int) + 1 - 1) = rooms.length := by omega
      by_cases hg1 : (g : Int) = 1
      · simp -dsimp only [hg1, if_true]
        have vx : ∀ (X : ExK) (k : U → Prop), vIx (stU span (rooms ++ [newR base (1 + (a : Int))]) regs told) (.int 1) X k = k (.tup ((rooms ++ [newR base (1 + (a : Int))]).map Room.u)) := fun X k => by simp -dsimp [stU]
        rw [vx]
        simp -dsimp [s_goneat _ _ (show rooms.length ≤ 1000 by omega), ll]
        refine s_bases (by omega) (by omega) (by rw [List.length_append, List.length_singleton]; omega) ?_
        rw [bases_gone, vEq_ints]
        simp -dsimp
        exact hn _ ⟨span, _, regs, told, _, _, _, _, _, _, _, _, rfl, by rw [show 6 + (i + 1) = 6 + i + 1 by omega]; exact Ig⟩
      · simp -dsimp only [hg1, if_false]
        exact hn _ ⟨span, _, regs, told, _, _, _, _, _, _, _, _, rfl, by rw [show 6 + (i + 1) = 6 + i + 1 by omega]; exact In⟩
  · rintro Γ ⟨span, rooms, regs, told, x2, x4, x5, x6, x7, x8, x9, x10, rfl, I⟩
    simp -dsimp
theorem law_true (ns : List Int) (hl : ns.length ≤ 63) : ∃ ah', m_law [.ref 0] (ah0 ns) = .ok (.bl true) ah' := law_link hl law_p
end HL

open PySem PySem.W PyProof.Rows
set_option maxRecDepth 100000 in
set_option maxHeartbeats 8000000 in
theorem PySem.Challenge.cw_heldaddresses_k18_whole_rooms_at_right_b_holds : PySem.Challenge.rw_heldaddresses_k18_whole_rooms_at_right_b.Holds := by
  w_on
  o_law
  k_head
  (case hw => w_witness2)
  k_fill
  refine HA.walk_G (l := PySem.Challenge.rw_heldaddresses_k18_whole_rooms_at_right_b) (k := 10) (x := "_law_script") (m := HL.m_law) rfl rfl (HA.rm_caller (by decide)) (fun w h Y => PySem.W.kIn_of Y) ?F (fun ns hl => HL.law_true ns hl)
  case F =>
    intro w mg fa h KX G hmg
    refine' HL.all_mk KX G hmg ?n0 ?l0 ?cd_0 ?k0 ?n1 ?l1 ?cd_1 ?k1 ?n2 ?l2 ?cd_2 ?k2 ?n3 ?l3 ?cd_3 ?k3 ?n4 ?l4 ?cd_4 ?k4 ?n5 ?l5 ?cd_5 ?k5 ?n6 ?l6 ?cd_6 ?k6 ?n7 ?l7 ?cd_7 ?k7 ?n8 ?l8 ?cd_8 ?k8 ?n9 ?l9 ?cd_9 ?k9 ?n10 ?l10 ?cd_10 ?k10 ?n11 ?l11 ?cd_11 ?k11 ?n12 ?l12 ?cd_12 ?k12 ?n13 ?l13 ?cd_13 ?k13 ?n14 ?l14 ?cd_14 ?k14 ?n15 ?l15 ?cd_15 ?k15 ?n16 ?l16 ?cd_16 ?k16 ?n17 ?l17 ?cd_17 ?k17 ?n18 ?l18 ?cd_18 ?k18 ?n19 ?l19 ?cd_19 ?k19 ?n20 ?l20 ?cd_20 ?k20 ?n21 ?l21 ?cd_21 ?k21 ?n22 ?l22 ?cd_22 ?k22 ?n23 ?l23 ?cd_23 ?k23 ?n24 ?l24 ?cd_24 ?k24 ?n25 ?l25 ?cd_25 ?k25 ?b_all ?b_bool ?b_int ?b_isinstance ?b_len ?b_list ?b_range ?b_repr ?b_reversed ?b_sorted ?b_str ?b_sum ?b_tuple ?b_zip ?c_NUMBERS ?c_NO_ROOM ?c_REGISTERS ?c_LEAST_SPAN ?c_MOST_SPAN ?c_MOST_SIZE ?c_GONE ?c_MODES ?u_MODES ?c_PARTS
    (case n0 => k_is)
    (case l0 => k_is)
    (case cd_0 => k_is)
    (case k0 => k_is)
    (case n1 => k_is)
    (case l1 => k_is)
    (case cd_1 => k_is)
    (case k1 => k_is)
    (case n2 => k_is)
    (case l2 => k_is)
    (case cd_2 => k_is)
    (case k2 => k_is)
    (case n3 => k_is)
    (case l3 => k_is)
    (case cd_3 => k_is)
    (case k3 => k_is)
    (case n4 => k_is)
    (case l4 => k_is)
    (case cd_4 => k_is)
    (case k4 => k_is)
    (case n5 => k_is)
    (case l5 => k_is)
    (case cd_5 => k_is)
    (case k5 => k_is)
    (case n6 => k_is)
    (case l6 => k_is)
    (case cd_6 => k_is)
    (case k6 => k_is)
    (case n7 => k_is)
    (case l7 => k_is)
    (case cd_7 => k_is)
    (case k7 => k_is)
    (case n8 => k_is)
    (case l8 => k_is)
    (case cd_8 => k_is)
    (case k8 => k_is)
    (case n9 => k_is)
    (case l9 => k_is)
    (case cd_9 => k_is)
    (case k9 => k_is)
    (case n10 => k_is)
    (case l10 => k_is)
    (case cd_10 => k_is)
    (case k10 => k_is)
    (case n11 => k_is)
    (case l11 => k_is)
    (case cd_11 => k_is)
    (case k11 => k_is)
    (case n12 => k_is)
    (case l12 => k_is)
    (case cd_12 => k_is)
    (case k12 => k_is)
    (case n13 => k_is)
    (case l13 => k_is)
    (case cd_13 => k_is)
    (case k13 => k_is)
    (case n14 => k_is)
    (case l14 => k_is)
    (case cd_14 => k_is)
    (case k14 => k_is)
    (case n15 => k_is)
    (case l15 => k_is)
    (case cd_15 => k_is)
    (case k15 => k_is)
    (case n16 => k_is)
    (case l16 => k_is)
    (case cd_16 => k_is)
    (case k16 => k_is)
    (case n17 => k_is)
    (case l17 => k_is)
    (case cd_17 => k_is)
    (case k17 => k_is)
    (case n18 => k_is)
    (case l18 => k_is)
    (case cd_18 => k_is)
    (case k18 => k_is)
    (case n19 => k_is)
    (case l19 => k_is)
    (case cd_19 => k_is)
    (case k19 => k_is)
    (case n20 => k_is)
    (case l20 => k_is)
    (case cd_20 => k_is)
    (case k20 => k_is)
    (case n21 => k_is)
    (case l21 => k_is)
    (case cd_21 => k_is)
    (case k21 => k_is)
    (case n22 => k_is)
    (case l22 => k_is)
    (case cd_22 => k_is)
    (case k22 => k_is)
    (case n23 => k_is)
    (case l23 => k_is)
    (case cd_23 => k_is)
    (case k23 => k_is)
    (case n24 => k_is)
    (case l24 => k_is)
    (case cd_24 => k_is)
    (case k24 => k_is)
    (case n25 => k_is)
    (case l25 => k_is)
    (case cd_25 => k_is)
    (case k25 => k_is)
    (case b_all => k_is)
    (case b_bool => k_is)
    (case b_int => k_is)
    (case b_isinstance => k_is)
    (case b_len => k_is)
    (case b_list => k_is)
    (case b_range => k_is)
    (case b_repr => k_is)
    (case b_reversed => k_is)
    (case b_sorted => k_is)
    (case b_str => k_is)
    (case b_sum => k_is)
    (case b_tuple => k_is)
    (case b_zip => k_is)
    (case c_NUMBERS => k_is)
    (case c_NO_ROOM => k_is)
    (case c_REGISTERS => k_is)
    (case c_LEAST_SPAN => k_is)
    (case c_MOST_SPAN => k_is)
    (case c_MOST_SIZE => k_is)
    (case c_GONE => k_is)
    (case c_MODES => k_is)
    (case u_MODES => k_is)
    (case c_PARTS => k_is)
