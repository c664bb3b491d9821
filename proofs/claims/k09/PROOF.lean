import PyProof.Rows.All
import Wide.All
import OpenK.AllK
import Wide.FinOn
import PyProof.EqAt
import PyProof.EqKinds
import PyProof.TupleCall
import HandS.ForMost
import HandS.ForSpec
import HandS.Flow
import HandS.Style
import HandS.Conv
import HandS.IsInst
import HandS.TupAny
import HandS.TupMul
import HandS.Zip
import HandS.Small
import HandS.Rev
import HandS.SortOrd
import HandS.Wide
import HandS.RaiseMore
import PyProof.Rows.IntBool
import PyProof.Rows.RuleB_bool
import PyProof.NeKinds
import HandS.Text
import HandS.ExcCtx
import HandS.ExcInit
import HandS.HotCalls
import HandS.SuiteRaise
import HandS.WordsExc
import HandS.More
import KE.KRevSl
import PyProof.ReprLen
import PyProof.WalksMore
import HandS.SortKw
import KE.DataMinMax
import KE.GoesMore
import KE.GoesEnumKw
import HandS.SortRule
import HandS.SortInts
import HandS.ExcField
import HandS.ExcIs
import HandS.MakeKwOnly
import HandS.Replace
import HandS.NoneIn
import PyProof.CollectIter
import HandS.FStr
import HandS.Iter
import HandS.Finally
import HandS.Defaults
import OpenK.KOps
import KE.KUnpack
import HandS.ExcInitHot
import PyProof.Rows.FloatCmp
import PyProof.Rows.FactsN_isinstance2
import PyProof.ListStr
import PySem.Challenge.RW_heldaddresses_k09_rows_at_paths
set_option Elab.async false
set_option linter.all false
set_option maxRecDepth 100000
set_option maxHeartbeats 4000000
namespace HA
open PySem PySem.Spec PyProof.Rows L2
inductive D where
  | non | bl (b : Bool) | int (i : Int) | str (x : Str) | tup (ds : List D) | ref (n : Nat) | cst (v : V) | glo (x : Str)
  /-- a caught exception at a, its dict at d, its fields -/
  | xv (a d : Addr) (ks : List Str) (ds : List D)
deriving Inhabited
inductive AObj where
  | lst (ds : List D)
  /-- a list that is only read (the script) -/
  | ro (ds : List D)
  | dK (kvs : List (Key × D))
  | dT (kvs : List (List Key × D))
  | ins (C : Str) (fs : List (Str × D))
deriving Inhabited
abbrev AH := List AObj
def gA (K : PySem.W.Frag) (x : Str) : Addr := match PySem.W.nsIn K mainGlobals x with
  | some (some (.ref a)) => a
  | _ => 0
theorem gA_of {K : PySem.W.Frag} {x : Str} {a : Addr} (h : PySem.W.nsIn K mainGlobals x = some (some (.ref a))) : gA K x = a := by unfold gA; rw [h]
section
variable (K : PySem.W.Frag) (μ : List Addr) (H : Hp)
mutual
def Rep : D → V → Prop
  | .non, v => v = .non
  | .bl b, v => v = .bl b
  | .int i, v => v = .int i
  | .str x, v => v = .str x
  | .ref n, v => ∃ a, μ[n]? = some a ∧ v = .ref a
  | .cst w, v => v = w
  | .glo x, v => v = .ref (gA K x)
  | .xv a d ks ds, v => v = .ref a ∧ ∃ vs, (ks = [] ∨ H d = some (.xd (ks.zip vs))) ∧ Reps ds vs
  | .tup ds, v => ∃ a vs, v = .ref a ∧ SqT K H a vs ∧ Reps ds vs
def Reps : List D → List V → Prop
  | [], vs => vs = []
  | d :: ds, vs => ∃ w ws, vs = w :: ws ∧ Rep d w ∧ Reps ds ws
end
def OOk (a : Addr) : AObj → Prop
  | .lst ds => ∃ vs, H a = some (.lst vs) ∧ Reps K μ H ds vs
  | .ro ds => ∃ vs, ((∃ o, H a = some (.frz o (.lst vs))) ∨ ∃ (o : Obj) (its : Array Value) (n : Nat), K.lookup a = some o ∧ o.cls = .type "list" ∧ o.dict = none ∧ o.data = .seq its n ∧ its.size ≤ sizeLine ∧ Vals vs its.toList) ∧ Reps K μ H ds vs
  | .dK kvs => ∃ kws : List (Key × V), H a = some (.dK kws) ∧ kvs.map (·.1) = kws.map (·.1) ∧ Reps K μ H (kvs.map (·.2)) (kws.map (·.2))
  | .dT kvs => ∃ kws : List (List Key × V), H a = some (.dT kws) ∧ kvs.map (·.1) = kws.map (·.1) ∧ Reps K μ H (kvs.map (·.2)) (kws.map (·.2))
  | .ins C fs => ∃ dx, ∃ fws : List (Str × V), H a = some (.ins (gA K C) dx fws) ∧ fs.map (·.1) = fws.map (·.1) ∧ Reps K μ H (fs.map (·.2)) (fws.map (·.2))
def AObj.isRo : AObj → Bool
  | .ro _ => true
  | _ => false
structure Sim (ah : AH) : Prop where
  len : μ.length = ah.length
  nd : ∀ (n m : Nat) (a : Addr) (o o' : AObj), μ[n]? = some a → μ[m]? = some a → ah[n]? = some o → ah[m]? = some o' → o.isRo = false → o'.isRo = false → n = m
  ok : ∀ (n : Nat) (a : Addr) (o : AObj), μ[n]? = some a → ah[n]? = some o → OOk K μ H a o
  pos : 0 < ah.length
  ro0 : ∀ (n : Nat) (o : AObj), ah[n]? = some o → (o.isRo = true ↔ n = 0)
end
def TExt (K : PySem.W.Frag) (H H' : Hp) : Prop := (∀ a xs, SqT K H a xs → SqT K H' a xs) ∧ ∀ a fs, H a = some (.xd fs) → H' a = some (.xd fs)
def EnvRel (K : PySem.W.Frag) (μ : List Addr) (H : Hp) (env : List (Option D)) (σ : L2.St) : Prop :=
  env.length = σ.length ∧ ∀ (i : Nat) (d : D), env[i]? = some (some d) → ∃ v, σ[i]? = some (some v) ∧ Rep K μ H d v
variable {K : PySem.W.Frag} {μ μ' μ'' : List Addr} {H H' H'' : Hp}
theorem TExt.refl : TExt K H H := ⟨fun _ _ h => h, fun _ _ h => h⟩
theorem TExt.trans (a : TExt K H H') (b : TExt K H' H'') : TExt K H H'' := ⟨fun x xs h => b.1 x xs (a.1 x xs h), fun x xs h => b.2 x xs (a.2 x xs h)⟩
theorem TExt.new {p : Addr} {o : HO} (h : H p = none) : TExt K H (upd H p o) := ⟨fun a xs q => by
  rcases q with (q | ⟨u, q⟩) | q
  · exact .inl (.inl (by rw [upd_ne (ne_of_none q h)]; exact q))
  · exact .inl (.inr ⟨u, by rw [upd_ne (ne_of_none q h)]; exact q⟩)
  · exact .inr q, fun a fs q => by rw [upd_ne (ne_of_none q h)]; exact q⟩
theorem TExt.mut {p : Addr} {o : HO} (h : Mut (H p)) : TExt K H (upd H p o) := ⟨fun a xs q => by
  rcases q with (q | ⟨u, q⟩) | q
  · exact .inl (.inl (by rw [upd_ne (fun z => by subst z; rw [q] at h; exact h)]; exact q))
  · exact .inl (.inr ⟨u, by rw [upd_ne (fun z => by subst z; rw [q] at h; exact h)]; exact q⟩)
  · exact .inr q, fun a fs q => by rw [upd_ne (fun z => by subst z; rw [q] at h; exact h)]; exact q⟩
theorem pre_get (h : μ <+: μ') {n : Nat} {a : Addr} (e : μ[n]? = some a) : μ'[n]? = some a := by
  obtain ⟨r, rfl⟩ := h
  rw [List.getElem?_append_left (List.getElem?_eq_some_iff.mp e).1]; exact e
mutual
theorem Rep.mono (hμ : μ <+: μ') (hH : TExt K H H') : ∀ (d : D) (v : V), Rep K μ H d v → Rep K μ' H' d v
  | .non, _, h => by simp only [Rep] at h ⊢; exact h
  | .bl b, _, h => by simp only [Rep] at h ⊢; exact h
  | .int i, _, h => by simp only [Rep] at h ⊢; exact h
  | .str x, _, h => by simp only [Rep] at h ⊢; exact h
  | .ref n, _, h => by
    simp only [Rep] at h ⊢
    obtain ⟨a, e, q⟩ := h
    exact ⟨a, pre_get hμ e, q⟩
  | .cst w, _, h => by simp only [Rep] at h ⊢; exact h
  | .glo w, _, h => by simp only [Rep] at h ⊢; exact h
  | .xv a d ks ds, _, h => by
    simp only [Rep] at h ⊢
    obtain ⟨e, vs, q, r⟩ := h
    exact ⟨e, vs, q.imp id (hH.2 _ _), Reps.mono hμ hH ds vs r⟩
  | .tup ds, _, h => by
    simp only [Rep] at h ⊢
    obtain ⟨a, vs, e, q, r⟩ := h
    exact ⟨a, vs, e, hH.1 _ _ q, Reps.mono hμ hH ds vs r⟩
theorem Reps.mono (hμ : μ <+: μ') (hH : TExt K H H') : ∀ (ds : List D) (vs : List V), Reps K μ H ds vs → Reps K μ' H' ds vs
  | [], _, h => by simp only [Reps] at h ⊢; exact h
  | d :: ds, _, h => by
    simp only [Reps] at h ⊢
    obtain ⟨w, ws, e, q, r⟩ := h
    exact ⟨w, ws, e, Rep.mono hμ hH d w q, Reps.mono hμ hH ds ws r⟩
end
theorem EnvRel.mono {env : List (Option D)} {σ : L2.St} (hμ : μ <+: μ') (hH : TExt K H H') (h : EnvRel K μ H env σ) : EnvRel K μ' H' env σ :=
  ⟨h.1, fun i d e => let ⟨v, q, r⟩ := h.2 i d e; ⟨v, q, r.mono hμ hH⟩⟩
theorem Reps.length : ∀ {ds : List D} {vs : List V}, Reps K μ H ds vs → ds.length = vs.length
  | [], _, h => by simp only [Reps] at h; subst h; rfl
  | d :: ds, _, h => by
    simp only [Reps] at h
    obtain ⟨w, ws, rfl, _, r⟩ := h
    simp [Reps.length r]
theorem Reps.nil : Reps K μ H [] [] := by simp only [Reps]
theorem Reps.cons {d : D} {v : V} {ds : List D} {vs : List V} (h : Rep K μ H d v) (t : Reps K μ H ds vs) : Reps K μ H (d :: ds) (v :: vs) := by
  simp only [Reps]; exact ⟨v, vs, rfl, h, t⟩
theorem Reps.append : ∀ {ds es : List D} {vs ws : List V}, Reps K μ H ds vs → Reps K μ H es ws → Reps K μ H (ds ++ es) (vs ++ ws)
  | [], _, _, _, h, t => by simp only [Reps] at h; subst h; exact t
  | d :: ds, es, _, ws, h, t => by
    simp only [Reps] at h
    obtain ⟨w, ws', rfl, q, r⟩ := h
    exact Reps.cons q (Reps.append r t)
theorem Reps.get : ∀ {ds : List D} {vs : List V} {i : Nat} {d : D}, Reps K μ H ds vs → ds[i]? = some d → ∃ v, vs[i]? = some v ∧ Rep K μ H d v
  | [], _, _, _, _, e => by simp at e
  | d :: ds, _, i, x, h, e => by
    simp only [Reps] at h
    obtain ⟨w, ws, rfl, q, r⟩ := h
    cases i with
    | zero => simp at e; subst e; exact ⟨w, rfl, q⟩
    | succ i =>
      obtain ⟨v, e1, e2⟩ := Reps.get (i := i) (d := x) r (by simpa using e)
      exact ⟨v, by simpa using e1, e2⟩
theorem Reps.take : ∀ {ds : List D} {vs : List V} (n : Nat), Reps K μ H ds vs → Reps K μ H (ds.take n) (vs.take n)
  | _, _, 0, _ => by simpa using Reps.nil
  | [], _, n + 1, h => by simp only [Reps] at h; subst h; simpa using Reps.nil
  | d :: ds, _, n + 1, h => by
    simp only [Reps] at h
    obtain ⟨w, ws, rfl, q, r⟩ := h
    exact Reps.cons q (Reps.take n r)
theorem Reps.drop : ∀ {ds : List D} {vs : List V} (n : Nat), Reps K μ H ds vs → Reps K μ H (ds.drop n) (vs.drop n)
  | _, _, 0, h => h
  | [], _, n + 1, h => by simp only [Reps] at h; subst h; simpa using Reps.nil
  | d :: ds, _, n + 1, h => by
    simp only [Reps] at h
    obtain ⟨w, ws, rfl, q, r⟩ := h
    exact Reps.drop n r
theorem Reps.set : ∀ {ds : List D} {vs : List V} (n : Nat) {d : D} {v : V}, Reps K μ H ds vs → Rep K μ H d v → Reps K μ H (ds.set n d) (vs.set n v)
  | [], _, n, _, _, h, _ => by simp only [Reps] at h; subst h; simpa using Reps.nil
  | d :: ds, _, 0, _, _, h, x => by
    simp only [Reps] at h
    obtain ⟨w, ws, rfl, q, r⟩ := h
    exact Reps.cons x r
  | d :: ds, _, n + 1, _, _, h, x => by
    simp only [Reps] at h
    obtain ⟨w, ws, rfl, q, r⟩ := h
    exact Reps.cons q (Reps.set n r x)
theorem Reps.reverse : ∀ {ds : List D} {vs : List V}, Reps K μ H ds vs → Reps K μ H ds.reverse vs.reverse
  | [], _, h => by simp only [Reps] at h; subst h; simpa using Reps.nil
  | d :: ds, _, h => by
    simp only [Reps] at h
    obtain ⟨w, ws, rfl, q, r⟩ := h
    rw [List.reverse_cons, List.reverse_cons]
    exact (Reps.reverse r).append (Reps.cons q Reps.nil)
theorem Reps.eraseIdx : ∀ {ds : List D} {vs : List V} (n : Nat), Reps K μ H ds vs → Reps K μ H (ds.eraseIdx n) (vs.eraseIdx n)
  | [], _, n, h => by simp only [Reps] at h; subst h; simpa using Reps.nil
  | d :: ds, _, 0, h => by
    simp only [Reps] at h
    obtain ⟨w, ws, rfl, q, r⟩ := h
    exact r
  | d :: ds, _, n + 1, h => by
    simp only [Reps] at h
    obtain ⟨w, ws, rfl, q, r⟩ := h
    exact Reps.cons q (Reps.eraseIdx n r)
theorem Reps.dropLast {ds : List D} {vs : List V} (h : Reps K μ H ds vs) : Reps K μ H ds.dropLast vs.dropLast := by
  rw [List.dropLast_eq_take, List.dropLast_eq_take, ← h.length]
  exact h.take _
theorem Reps.ints : ∀ {ns : List Int} {vs : List V}, Reps K μ H (ns.map D.int) vs → vs = ns.map V.int
  | [], _, h => by simp only [List.map_nil, Reps] at h; subst h; rfl
  | n :: ns, _, h => by
    simp only [List.map_cons, Reps, Rep] at h
    obtain ⟨w, ws, rfl, rfl, r⟩ := h
    rw [Reps.ints r]; rfl
theorem Reps.strs : ∀ {ns : List Str} {vs : List V}, Reps K μ H (ns.map D.str) vs → vs = ns.map V.str
  | [], _, h => by simp only [List.map_nil, Reps] at h; subst h; rfl
  | n :: ns, _, h => by
    simp only [List.map_cons, Reps, Rep] at h
    obtain ⟨w, ws, rfl, rfl, r⟩ := h
    rw [Reps.strs r]; rfl
theorem Reps.of_ints : ∀ (ns : List Int), Reps K μ H (ns.map D.int) (ns.map V.int)
  | [] => Reps.nil
  | n :: ns => Reps.cons (by simp only [Rep]) (Reps.of_ints ns)
theorem OOk.mono {a : Addr} : ∀ {o : AObj}, (hμ : μ <+: μ') → (hH : TExt K H H') → (he : o.isRo = false → H' a = H a) → (hf : ∀ ob u, H a = some (.frz ob u) → H' a = some (.frz ob u)) → OOk K μ H a o → OOk K μ' H' a o
  | .lst ds, hμ, hH, he, _, ⟨vs, e, r⟩ => ⟨vs, (he rfl).trans e, r.mono hμ hH⟩
  | .ro ds, hμ, hH, he, hf, ⟨vs, e, r⟩ => ⟨vs, e.elim (fun ⟨o, q⟩ => .inl ⟨o, hf _ _ q⟩) .inr, r.mono hμ hH⟩
  | .dK ds, hμ, hH, he, _, ⟨vs, e, k, r⟩ => ⟨vs, (he rfl).trans e, k, r.mono hμ hH⟩
  | .dT ds, hμ, hH, he, _, ⟨vs, e, k, r⟩ => ⟨vs, (he rfl).trans e, k, r.mono hμ hH⟩
  | .ins C ds, hμ, hH, he, _, ⟨dx, vs, e, k, r⟩ => ⟨dx, vs, (he rfl).trans e, k, r.mono hμ hH⟩
theorem OOk.there {a : Addr} : ∀ {o : AObj}, OOk K μ H a o → o.isRo = false → Mut (H a)
  | .lst ds, ⟨vs, e, _⟩, _ => by rw [e]; trivial
  | .ro ds, _, h => by cases h
  | .dK ds, ⟨vs, e, _⟩, _ => by rw [e]; trivial
  | .dT ds, ⟨vs, e, _⟩, _ => by rw [e]; trivial
  | .ins C ds, ⟨dx, vs, e, _⟩, _ => by rw [e]; trivial
theorem Sim.at {ah : AH} (S : Sim K μ H ah) {n : Nat} {o : AObj} (e : ah[n]? = some o) : ∃ a, μ[n]? = some a ∧ OOk K μ H a o := by
  have hn : n < μ.length := by rw [S.len]; exact (List.getElem?_eq_some_iff.mp e).1
  exact ⟨μ[n], by simp [hn], S.ok n _ o (by simp [hn]) e⟩
theorem Sim.frame {ah : AH} (S : Sim K μ H ah) (hH : TExt K H H') (he : ∀ a, Mut (H a) → H' a = H a) (hf : ∀ a ob u, H a = some (.frz ob u) → H' a = some (.frz ob u)) : Sim K μ H' ah :=
  ⟨S.len, S.nd, fun n a o e1 e2 => (S.ok n a o e1 e2).mono (List.prefix_refl _) hH (fun q => he a ((S.ok n a o e1 e2).there q)) (hf a), S.pos, S.ro0⟩
theorem Sim.mut {ah : AH} (S : Sim K μ H ah) {a : Addr} (h : a ∈ μ.tail) : Mut (H a) := by
  obtain ⟨i, e⟩ := List.mem_iff_getElem?.mp h
  rw [List.getElem?_tail] at e
  have hn : i + 1 < ah.length := by rw [← S.len]; exact (List.getElem?_eq_some_iff.mp e).1
  have e2 : ah[i + 1]? = some ah[i + 1] := List.getElem?_eq_getElem hn
  refine (S.ok _ a _ e e2).there ?_
  have := S.ro0 _ _ e2
  cases q : ah[i + 1].isRo with
  | false => rfl
  | true => exact absurd (this.mp q) (by omega)
theorem Sim.free {ah : AH} (S : Sim K μ H ah) {p : Addr} (h : H p = none) : p ∉ μ.tail := fun z => by
  have := S.mut z
  rw [h] at this; exact this
theorem Sim.other {ah : AH} (S : Sim K μ H ah) {p : Addr} {u : HO} (hp : H p = none) : Sim K μ (upd H p u) ah :=
  S.frame (TExt.new hp) (fun a h => upd_ne (fun z => by subst z; rw [hp] at h; exact h)) fun a ob v q => by rw [upd_ne (ne_of_none q hp)]; exact q
theorem Sim.new {ah : AH} (S : Sim K μ H ah) {p : Addr} {u : HO} {o : AObj} (hp : H p = none) (hr : o.isRo = false) (h : OOk K (μ ++ [p]) (upd H p u) p o) : Sim K (μ ++ [p]) (upd H p u) (ah ++ [o]) := by
  have key : ∀ (n : Nat) (a : Addr) (q : AObj), (μ ++ [p])[n]? = some a → (ah ++ [o])[n]? = some q → (μ[n]? = some a ∧ ah[n]? = some q) ∨ (n = ah.length ∧ a = p ∧ q = o) := fun n a q e1 e2 => by
    by_cases hn : n < ah.length
    · rw [List.getElem?_append_left (by rw [S.len]; exact hn)] at e1
      rw [List.getElem?_append_left hn] at e2
      exact .inl ⟨e1, e2⟩
    · have hn' : n < (ah ++ [o]).length := (List.getElem?_eq_some_iff.mp e2).1
      have : n = ah.length := by simp at hn'; omega
      subst this
      rw [List.getElem?_append_right (by rw [S.len]; omega)] at e1
      rw [List.getElem?_append_right (Nat.le_refl _)] at e2
      rw [S.len] at e1
      simp at e1 e2
      exact .inr ⟨rfl, e1.symm, e2.symm⟩
  refine ⟨by simp [S.len], fun n m a q q' e1 e2 e3 e4 r1 r2 => ?_, fun n a q e1 e2 => ?_, by simp, fun n q e => ?_⟩
  · rcases key n a q e1 e3 with ⟨x1, x2⟩ | ⟨x1, x2, x3⟩
    · rcases key m a q' e2 e4 with ⟨y1, y2⟩ | ⟨y1, y2, y3⟩
      · exact S.nd n m a q q' x1 y1 x2 y2 r1 r2
      · have := (S.ok n a q x1 x2).there r1
        rw [y2, hp] at this; exact this.elim
    · rcases key m a q' e2 e4 with ⟨y1, y2⟩ | ⟨y1, y2, y3⟩
      · have := (S.ok m a q' y1 y2).there r2
        rw [x2, hp] at this; exact this.elim
      · rw [x1, y1]
  · rcases key n a q e1 e2 with ⟨x1, x2⟩ | ⟨x1, x2, x3⟩
    · exact (S.ok n a q x1 x2).mono (List.prefix_append _ _) (TExt.new hp) (fun z => upd_ne (fun w => by
        have := (S.ok n a q x1 x2).there z
        rw [w, hp] at this; exact this)) fun ob v z => by rw [upd_ne (ne_of_none z hp)]; exact z
    · rw [x2, x3]; exact h
  · by_cases hn : n < ah.length
    · rw [List.getElem?_append_left hn] at e
      exact S.ro0 n q e
    · have hn' : n < (ah ++ [o]).length := (List.getElem?_eq_some_iff.mp e).1
      have : n = ah.length := by simp at hn'; omega
      subst this
      rw [List.getElem?_append_right (Nat.le_refl _)] at e
      simp at e
      subst e
      have := S.pos
      constructor
      · intro z; rw [hr] at z; cases z
      · intro z; omega
theorem Sim.put {ah : AH} (S : Sim K μ H ah) {n : Nat} {a : Addr} {u : HO} {o o' : AObj} (e1 : μ[n]? = some a) (e2 : ah[n]? = some o) (hr : o.isRo = false) (hr' : o'.isRo = false) (h : TExt K H (upd H a u) → OOk K μ (upd H a u) a o') : Sim K μ (upd H a u) (ah.set n o') := by
  have mu := (S.ok n a o e1 e2).there hr
  have ht : TExt K H (upd H a u) := TExt.mut mu
  have hn : n < ah.length := (List.getElem?_eq_some_iff.mp e2).1
  have old : ∀ (m : Nat) (q : AObj), (ah.set n o')[m]? = some q → m ≠ n → ah[m]? = some q := fun m q e z => by
    rw [List.getElem?_set_ne (Ne.symm z)] at e; exact e
  have self : ∀ q, (ah.set n o')[n]? = some q → q = o' := fun q e => by
    rw [List.getElem?_set_self hn] at e; exact (Option.some.inj e).symm
  refine ⟨by simp [S.len], fun m k b q q' x1 x2 x3 x4 r1 r2 => ?_, fun m b q x1 x2 => ?_, by rw [List.length_set]; exact S.pos, fun m q x => ?_⟩
  · by_cases hm : m = n
    · by_cases hk : k = n
      · rw [hm, hk]
      · subst hm
        rw [e1] at x1; cases x1
        exact S.nd m k a o q' e1 x2 e2 (old k q' x4 hk) hr r2
    · by_cases hk : k = n
      · subst hk
        rw [e1] at x2; cases x2
        exact S.nd m k a q o x1 e1 (old m q x3 hm) e2 r1 hr
      · exact S.nd m k b q q' x1 x2 (old m q x3 hm) (old k q' x4 hk) r1 r2
  · by_cases hm : m = n
    · subst hm
      rw [self q x2]
      rw [e1] at x1; cases x1
      exact h ht
    · have y := old m q x2 hm
      refine (S.ok m b q x1 y).mono (List.prefix_refl _) ht (fun z => upd_ne fun w => ?_) fun ob v z => ?_
      · subst w
        exact hm (S.nd m n b q o x1 e1 y e2 z hr)
      · rw [upd_ne fun w => by subst w; rw [z] at mu; exact mu]; exact z
  · by_cases hm : m = n
    · subst hm
      rw [self q x, ← S.ro0 _ _ e2, hr, hr']
    · exact S.ro0 m q (old m q x hm)
end HA
namespace HA
open PySem PySem.Spec PyProof.Rows L2
inductive Res (α : Type) where
  | ok (a : α) (h : AH)
  | exn (c : Str) (fs : Option (List (Str × D))) (h : AH)
  | stuck
def Res.bind {α β : Type} (r : Res α) (f : α → AH → Res β) : Res β := match r with
  | .ok a h => f a h
  | .exn c fs h => .exn c fs h
  | .stuck => .stuck
@[simp] theorem Res.bind_ok {α β : Type} (a : α) (h : AH) (f : α → AH → Res β) : (Res.ok a h).bind f = f a h := rfl
@[simp] theorem Res.bind_exn {α β : Type} (c : Str) (fs : Option (List (Str × D))) (h : AH) (f : α → AH → Res β) : (Res.exn c fs h : Res α).bind f = .exn c fs h := rfl
@[simp] theorem Res.bind_stuck {α β : Type} (f : α → AH → Res β) : (Res.stuck : Res α).bind f = .stuck := rfl
theorem Res.bind_assoc {α β γ : Type} (r : Res α) (f : α → AH → Res β) (g : β → AH → Res γ) : (r.bind f).bind g = r.bind fun a h => (f a h).bind g := by cases r <;> rfl
abbrev Env := List (Option D)
abbrev EM (α : Type) := Env → AH → Res α
structure Ext (K : PySem.W.Frag) (μ : List Addr) (H : Hp) (μ' : List Addr) (H' : Hp) : Prop where
  pre : μ <+: μ'
  tup : TExt K H H'
  new : ∀ a, a ∈ μ'.tail → a ∈ μ.tail ∨ H a = none
  keep : ∀ a o, a ∉ μ.tail → H a = some o → H' a = some o
  there : ∀ a, H' a = none → H a = none
section
variable {K : PySem.W.Frag} {μ μ1 μ2 : List Addr} {H H1 H2 : Hp}
theorem Ext.refl : Ext K μ H μ H := ⟨List.prefix_refl _, TExt.refl, fun _ h => .inl h, fun _ _ _ e => e, fun _ h => h⟩
theorem there_upd {p : Addr} {u : HO} : ∀ a, upd H p u a = none → H a = none := fun a h => by
  by_cases z : a = p
  · subst z; rw [upd_same] at h; cases h
  · rw [upd_ne z] at h; exact h
theorem Ext.trans (a : Ext K μ H μ1 H1) (b : Ext K μ1 H1 μ2 H2) : Ext K μ H μ2 H2 where
  pre := a.pre.trans b.pre
  there := fun x h => a.there x (b.there x h)
  tup := a.tup.trans b.tup
  new := fun x hx => by
    rcases b.new x hx with h | h
    · exact a.new x h
    · by_cases hm : x ∈ μ.tail
      · exact .inl hm
      · cases e : H x with
        | none => exact .inr rfl
        | some o => rw [a.keep x o hm e] at h; cases h
  keep := fun x o hm e => b.keep x o (fun z => by
    rcases a.new x z with h | h
    · exact hm h
    · rw [e] at h; cases h) (a.keep x o hm e)
theorem Ext.other {p : Addr} {u : HO} (hp : H p = none) : Ext K μ H μ (upd H p u) :=
  ⟨List.prefix_refl _, TExt.new hp, fun _ h => .inl h, fun a o _ e => by rw [upd_ne (ne_of_none e hp)]; exact e, there_upd⟩
theorem Ext.ours {p : Addr} {u : HO} (hp : H p = none) (h0 : 0 < μ.length) : Ext K μ H (μ ++ [p]) (upd H p u) :=
  ⟨List.prefix_append _ _, TExt.new hp, fun a h => by
    rw [List.tail_append_of_ne_nil (by intro z; rw [z] at h0; exact absurd h0 (by decide))] at h
    exact (List.mem_append.mp h).elim .inl fun z => .inr (by simp at z; rw [z]; exact hp), fun a o _ e => by rw [upd_ne (ne_of_none e hp)]; exact e, there_upd⟩
theorem Ext.put {p : Addr} {u : HO} {n : Nat} (e : μ[n]? = some p) (hn : n ≠ 0) (mu : Mut (H p)) : Ext K μ H μ (upd H p u) :=
  ⟨List.prefix_refl _, TExt.mut mu, fun _ h => .inl h, fun a o hm e' => by
    rw [upd_ne (fun z => hm (by
      rw [z]
      obtain ⟨k, rfl⟩ : ∃ k, n = k + 1 := ⟨n - 1, by omega⟩
      exact List.mem_of_getElem? (by rw [List.getElem?_tail]; exact e)))]
    exact e', there_upd⟩
theorem Rep.ext {d : D} {v : V} (h : Rep K μ H d v) (e : Ext K μ H μ1 H1) : Rep K μ1 H1 d v := Rep.mono e.pre e.tup d v h
theorem Reps.ext {d : List D} {v : List V} (h : Reps K μ H d v) (e : Ext K μ H μ1 H1) : Reps K μ1 H1 d v := Reps.mono e.pre e.tup d v h
theorem EnvRel.ext {env : Env} {σ : L2.St} (h : EnvRel K μ H env σ) (e : Ext K μ H μ1 H1) : EnvRel K μ1 H1 env σ := h.mono e.pre e.tup
end
def ExnOk (K : PySem.W.Frag) (μ : List Addr) (H : Hp) : Option (List (Str × D)) → Option Addr → Prop
  | none, od => od = none
  | some fs, od => ∃ d fws, od = some d ∧ H d = some (.xd fws) ∧ fs.map (·.1) = fws.map (·.1) ∧ Reps K μ H (fs.map (·.2)) (fws.map (·.2))
structure Rel (β γ : Type) where
  r : Hp → List Addr → Hp → β → γ → Prop
  back : ∀ {H₀ H₁ : Hp} {μ : List Addr} {H : Hp} {b : β} {c : γ}, (∀ a, H₁ a = none → H₀ a = none) → r H₁ μ H b c → r H₀ μ H b c
def Post {β γ : Type} (K : PySem.W.Frag) (R : Rel β γ) (W : Value → Option Addr → Hp → Prop) (μ : List Addr) (H : Hp) (Q : γ → Hp → Prop) : Res β → Prop
  | .ok d ah' => ∀ μ' x H', Ext K μ H μ' H' → Sim K μ' H' ah' → R.r H μ' H' d x → Q x H'
  | .exn c fs ah' => ∀ μ' H' od, Ext K μ H μ' H' → Sim K μ' H' ah' → ExnOk K μ' H' fs od → W (.ref (gA K c)) od H'
  | .stuck => False
section
variable {K : PySem.W.Frag} {μ μ1 : List Addr} {H H1 : Hp} {β γ β' γ' : Type} {R : Rel β γ} {R' : Rel β' γ'} {W : Value → Option Addr → Hp → Prop}
theorem Post.ext {Q : γ → Hp → Prop} {r : Res β} (e : Ext K μ H μ1 H1) (h : Post K R W μ H Q r) : Post K R W μ1 H1 Q r := by
  cases r with
  | ok d ah => exact fun μ' x H' e' s r => h μ' x H' (e.trans e') s (R.back e.there r)
  | exn c fs ah => exact fun μ' H' od e' => h μ' H' od (e.trans e')
  | stuck => exact h
theorem Post.bind {Q : γ' → Hp → Prop} {P : γ → Hp → Prop} {r : Res β} {f : β → AH → Res β'} (h : Post K R' W μ H Q (r.bind f))
    (k : ∀ d ah1 μ1 x H1, Ext K μ H μ1 H1 → Sim K μ1 H1 ah1 → R.r H μ1 H1 d x → Post K R' W μ1 H1 Q (f d ah1) → P x H1) : Post K R W μ H P r := by
  cases r with
  | ok d ah => exact fun μ' x H' e' s' r' => k d ah μ' x H' e' s' r' (Post.ext e' h)
  | exn c fs ah => exact h
  | stuck => exact h
theorem Post.bind0 {Q : γ' → Hp → Prop} {P : γ → Hp → Prop} {r : Res β} {f : β → AH → Res β'} (h : Post K R' W μ H Q (r.bind f))
    (k : ∀ d ah1 μ1 x H1, Ext K μ H μ1 H1 → Sim K μ1 H1 ah1 → R.r H μ1 H1 d x → Post K R' W μ H Q (f d ah1) → P x H1) : Post K R W μ H P r := by
  cases r with
  | ok d ah => exact fun μ' x H' e' s' r' => k d ah μ' x H' e' s' r' h
  | exn c fs ah => exact h
  | stuck => exact h
theorem Post.mono {Q Q' : γ → Hp → Prop} {r : Res β} (h : Post K R W μ H Q r) (k : ∀ x H', Q x H' → Q' x H') : Post K R W μ H Q' r := by
  cases r with
  | ok d ah => exact fun μ' x H' e' s' r' => k x H' (h μ' x H' e' s' r')
  | exn c fs ah => exact h
  | stuck => exact h
end
def RD (K : PySem.W.Frag) : Rel D V := ⟨fun _ μ H d v => Rep K μ H d v, fun _ h => h⟩
def RB : Rel Bool Bool := ⟨fun _ _ _ b c => b = c, fun _ h => h⟩
def RL (K : PySem.W.Frag) : Rel (List D) V := ⟨fun H₀ μ H ds v => ∃ a vs, v = .ref a ∧ H₀ a = none ∧ H a = some (.lst vs) ∧ a ∉ μ.tail ∧ Reps K μ H ds vs, fun h ⟨a, vs, e, z, r⟩ => ⟨a, vs, e, h a z, r⟩⟩
def RQ (K : PySem.W.Frag) : Rel (List D) V := ⟨fun _ μ H ds v => ∃ a vs, v = .ref a ∧ (SqL K H a vs ∨ SqT K H a vs) ∧ Reps K μ H ds vs, fun _ h => h⟩
def RA (K : PySem.W.Frag) : Rel (List D) (List V) := ⟨fun _ μ H ds vs => Reps K μ H ds vs, fun _ h => h⟩
def tG {β γ : Type} (K : PySem.W.Frag) (R : Rel β γ) (W : WX) (m : EM β) : L2.St → Hp → (γ → Hp → Prop) → Prop := fun σ H Q =>
  ∃ (μ : List Addr) (env : Env) (ah : AH), EnvRel K μ H env σ ∧ Sim K μ H ah ∧ Post K R (fun c d H' => W c d σ H') μ H Q (m env ah)
theorem tG_next {K : PySem.W.Frag} {β γ : Type} {R : Rel β γ} {W : WX} {σ : L2.St} {μ μ1 : List Addr} {env : Env} {H H1 : Hp} {ah1 : AH} {m : EM β} {Q : γ → Hp → Prop} (he : EnvRel K μ H env σ) (e : Ext K μ H μ1 H1) (hs : Sim K μ1 H1 ah1)
    (hp : Post K R (fun c d H' => W c d σ H') μ1 H1 Q (m env ah1)) : tG K R W m σ H1 Q := ⟨μ1, env, ah1, he.ext e, hs, hp⟩
theorem PE.weak {X : Cx} {e : Expr} {t t' : TE} (h : PE X e t) (k : ∀ σ H Q, t' σ H Q → t σ H Q) : PE X e t' := ⟨fun pins s σ H Q I q => h.run pins s σ H Q I (k σ H Q q)⟩
theorem PT.weak {X : Cx} {e : Expr} {t t' : TT} (h : PT X e t) (k : ∀ σ H Q, t' σ H Q → t σ H Q) : PT X e t' := ⟨fun pins s σ H Q I q => h.run pins s σ H Q I (k σ H Q q)⟩
theorem PW.weak {X : Cx} {e : Expr} {t t' : TT} (h : PW X e t) (k : ∀ σ H Q, t' σ H Q → t σ H Q) : PW X e t' := ⟨fun wh pins s σ H Q I q => h.run wh pins s σ H Q I (k σ H Q q)⟩
theorem PA.weak {X : Cx} {e : List Expr} {t t' : TA} (h : PA X e t) (k : ∀ σ H Q, t' σ H Q → t σ H Q) : PA X e t' := ⟨fun p pins s σ H Q I q => h.run p pins s σ H Q I (k σ H Q q)⟩
def PD (X : Cx) (W : WX) (e : Expr) (m : EM D) : Prop := PE X e (tG X.K (RD X.K) W m)
def PL (X : Cx) (W : WX) (e : Expr) (m : EM (List D)) : Prop := PE X e (tG X.K (RL X.K) W m)
def PQ (X : Cx) (W : WX) (e : Expr) (m : EM (List D)) : Prop := PE X e (tG X.K (RQ X.K) W m)
def PB (X : Cx) (W : WX) (e : Expr) (m : EM Bool) : Prop := PT X e (tG X.K RB W m)
def PBw (X : Cx) (W : WX) (e : Expr) (m : EM Bool) : Prop := PW X e (tG X.K RB W m)
def PAs (X : Cx) (W : WX) (es : List Expr) (m : EM (List D)) : Prop := PA X es (tG X.K (RA X.K) W m)
def eVar (i : Nat) : EM D := fun env ah => match env[i]? with
  | some (some d) => .ok d ah
  | _ => .stuck
def eC (d : D) : EM D := fun _ ah => .ok d ah
section
variable {X : Cx} {W : WX}
theorem post_var {K : PySem.W.Frag} {β γ : Type} {R : Rel β γ} {W : Value → Option Addr → Hp → Prop} {μ : List Addr} {H : Hp} {d : β} {x : γ} {ah : AH} {Q : γ → Hp → Prop} (h : Post K R W μ H Q (.ok d ah)) (S : Sim K μ H ah) (r : R.r H μ H d x) : Q x H := h μ x H Ext.refl S r
theorem pd_var (i : Nat) {x : Str} {pos : Pos} (hN : X.N[i]? = some x := by rfl) (hv : Vis X.env.scope x := by first | exact Or.inl rfl | exact Or.inr (Or.inl rfl) | exact Or.inr (Or.inr rfl)) (hd : (x == ("__debug__" : Str)) = false := by decide)
    (hcd : (x == ("__classdict__" : Str)) = false := by decide) : PD X W (.Name x pos) (eVar i) := by
  refine PE.weak (pe_var (i := i) hN hv hd hcd) fun σ H Q ⟨μ, env, ah, he, hs, hp⟩ => ?_
  unfold eVar at hp
  split at hp
  · rename_i d e
    obtain ⟨v, e', r⟩ := he.2 i d e
    exact ⟨v, e', post_var hp hs r⟩
  · exact hp.elim
theorem pd_c {e : Expr} {v : V} {d : D} (h : PE X e (tC v)) (hr : ∀ μ H, Rep X.K μ H d v) : PD X W e (eC d) :=
  PE.weak h fun σ H Q ⟨μ, env, ah, he, hs, hp⟩ => post_var (x := v) hp hs (hr μ H)
theorem pd_int {i : Int} {j pos} : PD X W (.Constant (.int i) j pos) (eC (.int i)) := pd_c pe_int fun _ _ => by simp only [Rep]
theorem pd_bl {b : Bool} {j pos} : PD X W (.Constant (.bool b) j pos) (eC (.bl b)) := pd_c pe_bl fun _ _ => by simp only [Rep]
theorem pd_non {j pos} : PD X W (.Constant .none j pos) (eC .non) := pd_c pe_non fun _ _ => by simp only [Rep]
theorem pd_str {x j pos} : PD X W (.Constant (.str x) j pos) (eC (.str x)) := pd_c pe_str fun _ _ => by simp only [Rep]
theorem pd_glob {x : Str} {v : V} {u : Value} {d : D} {pos : Pos} (hg : Gl X x) (hm : X.mg x = some u) (r : RelV v u) (hr : ∀ μ H, Rep X.K μ H d v) (hd : (x == ("__debug__" : Str)) = false := by decide) : PD X W (.Name x pos) (eC d) :=
  pd_c (pe_glob hg hm r hd) hr
def e2 {α β γ : Type} (ma : EM α) (mb : EM β) (f : α → β → AH → Res γ) : EM γ := fun env ah => (ma env ah).bind fun x ah1 => (mb env ah1).bind fun y ah2 => f x y ah2
def e1 {α γ : Type} (ma : EM α) (f : α → AH → Res γ) : EM γ := fun env ah => (ma env ah).bind fun x ah1 => f x ah1
def rO {γ : Type} {R : Rel γ V} (K : PySem.W.Frag) (W : Value → Option Addr → Hp → Prop) (f : D → D → AH → Res γ) : R2 := fun x y H Q => ∃ μ ah dx dy, Sim K μ H ah ∧ Rep K μ H dx x ∧ Rep K μ H dy y ∧ Post K R W μ H Q (f dx dy ah)
def OpD {γ : Type} (X : Cx) (R : Rel γ V) (F : Value → Value → Sem Value) (f : D → D → AH → Res γ) : Prop := ∀ W, OpR X F (rO (R := R) X.K W f)
theorem op2 {γ : Type} {R : Rel γ V} {K : PySem.W.Frag} {ma mb : EM D} {f : D → D → AH → Res γ} {σ : L2.St} {H : Hp} {Q : VK} (h : tG K R W (e2 ma mb f) σ H Q) :
    tOp (rO (R := R) K (fun c d H' => W c d σ H') f) (tG K (RD K) W ma) (tG K (RD K) W mb) σ H Q := by
  obtain ⟨μ, env, ah, he, hs, hp⟩ := h
  refine ⟨μ, env, ah, he, hs, hp.bind fun dx ah1 μ1 x H1 e1 s1 r1 p1 => ?_⟩
  refine tG_next he e1 s1 (p1.bind fun dy ah2 μ2 y H2 e2 s2 r2 p2 => ?_)
  exact ⟨μ2, ah2, dx, dy, s2, Rep.ext r1 e2, r2, p2⟩
theorem pe_opσ {op : Operator} {r : L2.St → R2} {a b : Expr} {ta tb : TE} {pos : Pos} (ho : ∀ σ, OpR X (binaryOp op) (r σ)) (ha : PE X a ta) (hb : PE X b tb) : PE X (.BinOp a op b pos) (fun σ H Q => tOp (r σ) ta tb σ H Q) :=
  ⟨fun pins s σ H Q I h => (pe_op (ho σ) ha hb).run pins s σ H Q I h⟩
theorem pd_op {op : Operator} {a b : Expr} {ma mb : EM D} {f : D → D → AH → Res D} {pos : Pos} (ho : OpD X (RD X.K) (binaryOp op) f) (ha : PD X W a ma) (hb : PD X W b mb) : PD X W (.BinOp a op b pos) (e2 ma mb f) :=
  PE.weak (pe_opσ (r := fun σ => rO (R := RD X.K) X.K (fun c d H' => W c d σ H') f) (fun σ => ho _) ha hb) fun _ _ _ h => op2 h
theorem pe_cmpσ {op : CmpOp} {r : L2.St → R2} {a b : Expr} {ta tb : TE} {pos : Pos} (ho : ∀ σ, OpR X (compareOp op) (r σ)) (ha : PE X a ta) (hb : PE X b tb) (hm : behindInMarks op b = false) : PE X (.Compare a [op] [b] pos) (fun σ H Q => tOp (r σ) ta tb σ H Q) :=
  ⟨fun pins s σ H Q I h => (pe_cmpR (ho σ) ha hb hm).run pins s σ H Q I h⟩
theorem pt_cmpσ {op : CmpOp} {r : L2.St → R2} {a b : Expr} {ta tb : TE} {pos : Pos} (ho : ∀ σ, OpR X (compareOp op) (r σ)) (ha : PE X a ta) (hb : PE X b tb) (hm : behindInMarks op b = false) : PT X (.Compare a [op] [b] pos) (fun σ H Q => tTest (tOp (r σ) ta tb) σ H Q) :=
  ⟨fun pins s σ H Q I h => (pt_cmpR (ho σ) ha hb hm).run pins s σ H Q I h⟩
def RBV : Rel Bool V := ⟨fun _ _ _ b v => v = .bl b, fun _ h => h⟩
theorem Post.bv {K : PySem.W.Frag} {Wx : Value → Option Addr → Hp → Prop} {μ : List Addr} {H : Hp} {Q : VK} {r : Res Bool} (h : Post K (RD K) Wx μ H Q (r.bind fun b ah => .ok (.bl b) ah)) : Post K RBV Wx μ H Q r := by
  cases r with
  | ok b ah => exact fun μ' x H' e s r => h μ' x H' e s (by have : x = .bl b := r; subst this; simp only [RD, Rep])
  | exn c fs ah => exact h
  | stuck => exact h
theorem Post.bb {K : PySem.W.Frag} {Wx : Value → Option Addr → Hp → Prop} {μ : List Addr} {H : Hp} {Q : Bool → Hp → Prop} {r : Res Bool} (h : Post K RB Wx μ H Q r) : Post K RBV Wx μ H (fun x H' => ∃ k, x = .bl k ∧ Q k H') r := by
  cases r with
  | ok b ah => exact fun μ' x H' e s r => ⟨b, r, h μ' b H' e s rfl⟩
  | exn c fs ah => exact h
  | stuck => exact h
def eB (m : EM Bool) : EM D := fun env ah => (m env ah).bind fun b ah => .ok (.bl b) ah
theorem op2b {K : PySem.W.Frag} {ma mb : EM D} {f : D → D → AH → Res Bool} {σ : L2.St} {H : Hp} {Q : VK} (h : tG K (RD K) W (eB (e2 ma mb f)) σ H Q) :
    tOp (rO (R := RBV) K (fun c d H' => W c d σ H') f) (tG K (RD K) W ma) (tG K (RD K) W mb) σ H Q := by
  obtain ⟨μ, env, ah, he, hs, hp⟩ := h
  exact op2 ⟨μ, env, ah, he, hs, Post.bv hp⟩
theorem pd_cmp {op : CmpOp} {a b : Expr} {ma mb : EM D} {f : D → D → AH → Res Bool} {pos : Pos} (ho : OpD X RBV (compareOp op) f) (ha : PD X W a ma) (hb : PD X W b mb) (hm : behindInMarks op b = false := by first | exact nomark _ | rfl) : PD X W (.Compare a [op] [b] pos) (eB (e2 ma mb f)) :=
  PE.weak (pe_cmpσ (r := fun σ => rO (R := RBV) X.K (fun c d H' => W c d σ H') f) (fun σ => ho _) ha hb hm) fun _ _ _ h => op2b h
theorem pb_cmp {op : CmpOp} {a b : Expr} {ma mb : EM D} {f : D → D → AH → Res Bool} {pos : Pos} (ho : OpD X RBV (compareOp op) f) (ha : PD X W a ma) (hb : PD X W b mb) (hm : behindInMarks op b = false := by first | exact nomark _ | rfl) : PB X W (.Compare a [op] [b] pos) (e2 ma mb f) := by
  refine PT.weak (pt_cmpσ (r := fun σ => rO (R := RBV) X.K (fun c d H' => W c d σ H') f) (fun σ => ho _) ha hb hm) fun σ H Q ⟨μ, env, ah, he, hs, hp⟩ => ?_
  exact op2 ⟨μ, env, ah, he, hs, Post.bb hp⟩
end
end HA
namespace HA
open PySem PySem.Spec PyProof.Rows L2
def line : Nat := 16777216
theorem line_le {n : Nat} (h : n ≤ line) : n ≤ sizeLine := by rw [sizeLine_eq]; exact h
def listAt (ah : AH) (n : Nat) : Option (List D) := match ah[n]? with
  | some (.lst ds) => some ds
  | some (.ro ds) => some ds
  | _ => none
section
variable {K : PySem.W.Frag} {μ : List Addr} {H : Hp}
theorem Sim.list {ah : AH} (S : Sim K μ H ah) {n : Nat} {ds : List D} (e : listAt ah n = some ds) : ∃ a vs, μ[n]? = some a ∧ SqL K H a vs ∧ Reps K μ H ds vs := by
  unfold listAt at e
  split at e
  · rename_i xs q
    cases e
    obtain ⟨a, e1, vs, e2, r⟩ := S.at q
    exact ⟨a, vs, e1, SqL.of e2, r⟩
  · rename_i xs q
    cases e
    obtain ⟨a, e1, vs, e2, r⟩ := S.at q
    refine ⟨a, vs, e1, ?_, r⟩
    rcases e2 with ⟨o, e2⟩ | e2
    · exact .inl (.inr ⟨o, e2⟩)
    · exact .inr e2
  · cases e
end
def mulOk (i j : Int) : Bool := decide (i.natAbs.log2 + j.natAbs.log2 < 1000000)
def dI (b : Bool) : Int := if b = true then 1 else 0
def oAdd : D → D → AH → Res D
  | .int i, .int j, ah => .ok (.int (i + j)) ah
  | .str x, .str y, ah => if x.length + y.length ≤ line then .ok (.str (x ++ y)) ah else .stuck
  | .tup xs, .tup ys, ah => if xs.length + ys.length ≤ line then .ok (.tup (xs ++ ys)) ah else .stuck
  | .int i, .bl b, ah => .ok (.int (i + dI b)) ah
  | .bl b, .int j, ah => .ok (.int (dI b + j)) ah
  | .bl a, .bl b, ah => .ok (.int (dI a + dI b)) ah
  | _, _, _ => .stuck
def oSub : D → D → AH → Res D
  | .int i, .int j, ah => .ok (.int (i - j)) ah
  | .int i, .bl b, ah => .ok (.int (i - dI b)) ah
  | .bl b, .int j, ah => .ok (.int (dI b - j)) ah
  | .bl a, .bl b, ah => .ok (.int (dI a - dI b)) ah
  | _, _, _ => .stuck
def oMul : D → D → AH → Res D
  | .int i, .int j, ah => if mulOk i j = true then .ok (.int (i * j)) ah else .stuck
  | .tup xs, .int k, ah => if xs ≠ [] ∧ 2 ≤ k ∧ k ≤ 1000 ∧ xs.length ≤ 1000 then .ok (.tup (List.replicate k.toNat xs).flatten) ah else .stuck
  | _, _, _ => .stuck
def oFdiv : D → D → AH → Res D
  | .int i, .int j, ah => if 0 < j ∧ j.natAbs.log2 < 9000 then .ok (.int (i / j)) ah else .stuck
  | _, _, _ => .stuck
def oMod : D → D → AH → Res D
  | .int i, .int j, ah => if 0 < j then .ok (.int (i % j)) ah else .stuck
  | _, _, _ => .stuck
def oPow : D → D → AH → Res D
  | .int i, .int j, ah => if 0 ≤ j ∧ j ≤ 1000000 ∧ i.natAbs < 2 ^ 64 then .ok (.int (i ^ j.toNat)) ah else .stuck
  | _, _, _ => .stuck
section
variable {X : Cx} {W : WX}
theorem Post.ok1 {β γ : Type} {K : PySem.W.Frag} {R : Rel β γ} {Wx : Value → Option Addr → Hp → Prop} {μ : List Addr} {H : Hp} {Q : γ → Hp → Prop} {d : β} {ah : AH} (h : Post K R Wx μ H Q (.ok d ah)) {x : γ} (S : Sim K μ H ah) (r : R.r H μ H d x) : Q x H := h μ x H Ext.refl S r
theorem Post.newT {K : PySem.W.Frag} {Wx : Value → Option Addr → Hp → Prop} {μ : List Addr} {H : Hp} {Q : VK} {ds : List D} {ah : AH} (h : Post K (RD K) Wx μ H Q (.ok (.tup ds) ah)) {vs : List V} (S : Sim K μ H ah) (r : Reps K μ H ds vs) {p : Addr} (hp : H p = none) : Q (.ref p) (upd H p (.tup vs)) :=
  h μ _ _ (Ext.other hp) (S.other hp) (by
    show Rep _ _ _ (.tup ds) _
    simp only [Rep]
    exact ⟨p, vs, rfl, SqT.of upd_same, r.ext (Ext.other hp)⟩)
theorem Post.newL {K : PySem.W.Frag} {Wx : Value → Option Addr → Hp → Prop} {μ : List Addr} {H : Hp} {Q : VK} {ds : List D} {ah : AH} (h : Post K (RL K) Wx μ H Q (.ok ds ah)) {vs : List V} (S : Sim K μ H ah) (r : Reps K μ H ds vs) {p : Addr} (hp : H p = none) : Q (.ref p) (upd H p (.lst vs)) :=
  h μ _ _ (Ext.other hp) (S.other hp) ⟨p, vs, rfl, hp, upd_same, S.free hp, r.ext (Ext.other hp)⟩
theorem d_int {K : PySem.W.Frag} {μ : List Addr} {H : Hp} {i : Int} {v : V} (h : Rep K μ H (.int i) v) : v = .int i := by simpa only [Rep] using h
theorem d_str {K : PySem.W.Frag} {μ : List Addr} {H : Hp} {i : Str} {v : V} (h : Rep K μ H (.str i) v) : v = .str i := by simpa only [Rep] using h
theorem d_bl {K : PySem.W.Frag} {μ : List Addr} {H : Hp} {i : Bool} {v : V} (h : Rep K μ H (.bl i) v) : v = .bl i := by simpa only [Rep] using h
theorem d_non {K : PySem.W.Frag} {μ : List Addr} {H : Hp} {v : V} (h : Rep K μ H .non v) : v = .non := by simpa only [Rep] using h
theorem d_tup {K : PySem.W.Frag} {μ : List Addr} {H : Hp} {ds : List D} {v : V} (h : Rep K μ H (.tup ds) v) : ∃ a vs, v = .ref a ∧ SqT K H a vs ∧ Reps K μ H ds vs := by simpa only [Rep] using h
theorem d_ref {K : PySem.W.Frag} {μ : List Addr} {H : Hp} {n : Nat} {v : V} (h : Rep K μ H (.ref n) v) : ∃ a, μ[n]? = some a ∧ v = .ref a := by simpa only [Rep] using h
theorem r_int {K : PySem.W.Frag} {μ : List Addr} {H : Hp} {i : Int} : (RD K).r H μ H (.int i) (.int i) := by simp only [RD, Rep]
theorem r_str {K : PySem.W.Frag} {μ : List Addr} {H : Hp} {i : Str} : (RD K).r H μ H (.str i) (.str i) := by simp only [RD, Rep]
theorem r_bl {K : PySem.W.Frag} {μ : List Addr} {H : Hp} {i : Bool} : (RD K).r H μ H (.bl i) (.bl i) := by simp only [RD, Rep]
theorem r_non {K : PySem.W.Frag} {μ : List Addr} {H : Hp} : (RD K).r H μ H .non .non := by simp only [RD, Rep]
theorem r_tup {K : PySem.W.Frag} {μ : List Addr} {H : Hp} {ds : List D} {a : Addr} {vs : List V} (h : SqT K H a vs) (r : Reps K μ H ds vs) : (RD K).r H μ H (.tup ds) (.ref a) := by
  simp only [RD, Rep]; exact ⟨a, vs, rfl, h, r⟩
theorem OpR.imp {f : Value → Value → Sem Value} {r r' : R2} (h : OpR X f r) (k : ∀ x y H Q, r' x y H Q → r x y H Q) : OpR X f r' :=
  fun pins s σ H x y v u Q I rx ry q => h pins s σ H x y v u Q I rx ry (k x y H Q q)
def rMix (g : Int → Int → Int) : R2 := fun x y H Q => (∃ i b, x = .int i ∧ y = .bl b ∧ Q (.int (g i (dI b))) H) ∨ (∃ b i, x = .bl b ∧ y = .int i ∧ Q (.int (g (dI b) i)) H) ∨ (∃ a b, x = .bl a ∧ y = .bl b ∧ Q (.int (g (dI a) (dI b))) H)
theorem op_add_mix : OpR X (binaryOp .Add) (rMix fun i j => i + j) := by
  intro pins s σ H x y v u Q I rx ry h
  rcases h with ⟨i, b, rfl, rfl, q⟩ | ⟨b, i, rfl, rfl, q⟩ | ⟨a, b, rfl, rfl, q⟩
  · obtain ⟨t, rfl⟩ := rx; cases ry
    exact add_int_bool ⟨.int (i + dI b), H, I.tok _, ⟨_, rfl⟩, q⟩
  · obtain ⟨t, rfl⟩ := ry; cases rx
    exact IntBool.add_bool_int ⟨.int (dI b + i), H, I.tok _, ⟨_, rfl⟩, q⟩
  · cases rx; cases ry
    exact add_bool ⟨.int (dI a + dI b), H, I.tok _, ⟨_, rfl⟩, q⟩
theorem op_sub_mix : OpR X (binaryOp .Sub) (rMix fun i j => i - j) := by
  intro pins s σ H x y v u Q I rx ry h
  rcases h with ⟨i, b, rfl, rfl, q⟩ | ⟨b, i, rfl, rfl, q⟩ | ⟨a, b, rfl, rfl, q⟩
  · obtain ⟨t, rfl⟩ := rx; cases ry
    exact IntBool.sub_int_bool ⟨.int (i - dI b), H, I.tok _, ⟨_, rfl⟩, q⟩
  · obtain ⟨t, rfl⟩ := ry; cases rx
    exact IntBool.sub_bool_int ⟨.int (dI b - i), H, I.tok _, ⟨_, rfl⟩, q⟩
  · cases rx; cases ry
    exact sub_bool ⟨.int (dI a - dI b), H, I.tok _, ⟨_, rfl⟩, q⟩
theorem od_add : OpD X (RD X.K) (binaryOp .Add) oAdd := fun Wx => by
  refine OpR.imp ((op_add.or (op_add_str.or op_catA)).or op_add_mix) fun x y H Q ⟨μ, ah, dx, dy, S, rx, ry, hp⟩ => ?_
  unfold oAdd at hp
  split at hp
  · rw [d_int rx, d_int ry]; exact .inl (.inl ⟨_, _, rfl, rfl, hp.ok1 S r_int⟩)
  · split at hp
    · rename_i hl
      rw [d_str rx, d_str ry]; exact .inl (.inr (.inl ⟨_, _, rfl, rfl, line_le hl, hp.ok1 S r_str⟩))
    · exact hp.elim
  · split at hp
    · rename_i ah' xs ys hl
      obtain ⟨a, vs, rfl, hx, r1⟩ := d_tup rx
      obtain ⟨b, ws, rfl, hy, r2⟩ := d_tup ry
      have l1 := r1.length
      have l2 := r2.length
      refine .inl (.inr (.inr ⟨a, b, vs, ws, rfl, rfl, hx, hy, line_le (by omega), ?_⟩))
      refine ⟨fun e => hp.ok1 S (r_tup hy ?_), fun _ e => hp.ok1 S (r_tup hx ?_), fun _ _ p np => hp.newT S (r1.append r2) np⟩
      · subst e
        have z := List.length_eq_zero_iff.mp l1
        rw [z]; exact r2
      · subst e
        have z := List.length_eq_zero_iff.mp l2
        rw [z, List.append_nil]; exact r1
    · exact hp.elim
  · rw [d_int rx, d_bl ry]; exact .inr (.inl ⟨_, _, rfl, rfl, hp.ok1 S r_int⟩)
  · rw [d_bl rx, d_int ry]; exact .inr (.inr (.inl ⟨_, _, rfl, rfl, hp.ok1 S r_int⟩))
  · rw [d_bl rx, d_bl ry]; exact .inr (.inr (.inr ⟨_, _, rfl, rfl, hp.ok1 S r_int⟩))
  · exact hp.elim
theorem od_sub : OpD X (RD X.K) (binaryOp .Sub) oSub := fun Wx => by
  refine OpR.imp (op_sub.or op_sub_mix) fun x y H Q ⟨μ, ah, dx, dy, S, rx, ry, hp⟩ => ?_
  unfold oSub at hp
  split at hp
  · rw [d_int rx, d_int ry]; exact .inl ⟨_, _, rfl, rfl, hp.ok1 S r_int⟩
  · rw [d_int rx, d_bl ry]; exact .inr (.inl ⟨_, _, rfl, rfl, hp.ok1 S r_int⟩)
  · rw [d_bl rx, d_int ry]; exact .inr (.inr (.inl ⟨_, _, rfl, rfl, hp.ok1 S r_int⟩))
  · rw [d_bl rx, d_bl ry]; exact .inr (.inr (.inr ⟨_, _, rfl, rfl, hp.ok1 S r_int⟩))
  · exact hp.elim
theorem od_mul : OpD X (RD X.K) (binaryOp .Mult) oMul := fun Wx => by
  refine OpR.imp (op_mulW.or op_repT) fun x y H Q ⟨μ, ah, dx, dy, S, rx, ry, hp⟩ => ?_
  unfold oMul at hp
  split at hp
  · split at hp
    · rename_i hl
      rw [d_int rx, d_int ry]; exact .inl ⟨_, _, rfl, rfl, by unfold CMulW; unfold mulOk at hl; exact of_decide_eq_true hl, hp.ok1 S r_int⟩
    · exact hp.elim
  · split at hp
    · rename_i ah' xs k hl
      obtain ⟨a, vs, rfl, hx, r1⟩ := d_tup rx
      rw [d_int ry]
      have l1 := r1.length
      refine .inr ⟨a, k, vs, rfl, rfl, hx, fun e => hl.1 (List.length_eq_zero_iff.mp (by rw [l1, e]; rfl)), hl.2.1, hl.2.2.1, by omega, fun p np => hp.newT S ?_ np⟩
      have rep : ∀ n : Nat, Reps X.K μ H (List.replicate n xs).flatten (List.replicate n vs).flatten := fun n => by
        induction n with
        | zero => exact Reps.nil
        | succ n ih => rw [List.replicate_succ, List.replicate_succ, List.flatten_cons, List.flatten_cons]; exact r1.append ih
      exact rep _
    · exact hp.elim
  · exact hp.elim
theorem od_fdiv : OpD X (RD X.K) (binaryOp .FloorDiv) oFdiv := fun Wx => by
  refine OpR.imp op_fdivW fun x y H Q ⟨μ, ah, dx, dy, S, rx, ry, hp⟩ => ?_
  unfold oFdiv at hp
  split at hp
  · split at hp
    · rename_i hl
      rw [d_int rx, d_int ry]; exact ⟨_, _, rfl, rfl, hl, hp.ok1 S r_int⟩
    · exact hp.elim
  · exact hp.elim
theorem od_mod : OpD X (RD X.K) (binaryOp .Mod) oMod := fun Wx => by
  refine OpR.imp op_mod fun x y H Q ⟨μ, ah, dx, dy, S, rx, ry, hp⟩ => ?_
  unfold oMod at hp
  split at hp
  · split at hp
    · rename_i hl
      rw [d_int rx, d_int ry]; exact ⟨_, _, rfl, rfl, hl, hp.ok1 S r_int⟩
    · exact hp.elim
  · exact hp.elim
theorem od_pow : OpD X (RD X.K) (binaryOp .Pow) oPow := fun Wx => by
  refine OpR.imp op_pow fun x y H Q ⟨μ, ah, dx, dy, S, rx, ry, hp⟩ => ?_
  unfold oPow at hp
  split at hp
  · split at hp
    · rename_i hl
      rw [d_int rx, d_int ry]; exact ⟨_, _, rfl, rfl, hl, hp.ok1 S r_int⟩
    · exact hp.elim
  · exact hp.elim
end
end HA
namespace HA
open PySem PySem.Spec PyProof.Rows L2
inductive SR (h : Heap) : Value → PyData → Prop where
  | none : SR h .none .none
  | bool (b : Bool) : SR h (.bool b) (.bool b)
  | int (i : Int) (t : Tok) : SR h (.int i t) (.int i)
  | str (x : Str) (t : Tok) : SR h (.str x t) (.str x)
  | list {a : Addr} {o : Obj} {us : Array Value} {n : Nat} {ps : List PyData} : h.get? a = some o → o.cls = .type "list" → o.data = .seq us n → (us.toList.length = ps.length) → (∀ (i : Nat) u p, us.toList[i]? = some u → ps[i]? = some p → SR h u p) → SR h (.ref a) (.list ps)
  | tuple {a : Addr} {o : Obj} {us : Array Value} {n : Nat} {ps : List PyData} : h.get? a = some o → o.cls = .type "tuple" → o.data = .seq us n → (us.toList.length = ps.length) → (∀ (i : Nat) u p, us.toList[i]? = some u → ps[i]? = some p → SR h u p) → SR h (.ref a) (.tuple ps)
  | dict {a : Addr} {o : Obj} {es : Array DictEntry} {n : Nat} {kvs : List (PyData × PyData)} : h.get? a = some o → o.cls = .type "dict" → o.data = .dict es n → (a == sysModules) = false → es.toList.length = kvs.length →
      (∀ (i : Nat) e q, es.toList[i]? = some e → kvs[i]? = some q → SR h e.key q.1) → (∀ (i : Nat) e q, es.toList[i]? = some e → kvs[i]? = some q → SR h e.val q.2) → SR h (.ref a) (.dict kvs)
theorem readsAll_mk {h : Heap} : ∀ (us : List Value) (ps : List PyData), us.length = ps.length → (∀ (i : Nat) u p, us[i]? = some u → ps[i]? = some p → ∃ as, Reads h u p as) → ∃ as, ReadsAll h us ps as
  | [], [], _, _ => ⟨_, .nil⟩
  | u :: us, p :: ps, hl, hf => by
    obtain ⟨as, h1⟩ := hf 0 u p rfl rfl
    obtain ⟨bs, h2⟩ := readsAll_mk us ps (by simpa using hl) fun i u' p' e1 e2 => hf (i + 1) u' p' (by simpa using e1) (by simpa using e2)
    exact ⟨_, .cons h1 h2⟩
  | [], _ :: _, hl, _ => by simp at hl
  | _ :: _, [], hl, _ => by simp at hl
theorem SR.reads {h : Heap} {v : Value} {d : PyData} (r : SR h v d) : ∃ as, Reads h v d as := by
  induction r with
  | none => exact ⟨_, .none⟩
  | bool b => exact ⟨_, .bool b⟩
  | int i t => exact ⟨_, .int i t⟩
  | str x t => exact ⟨_, .str x t⟩
  | list h1 h2 h3 h4 _ ih =>
    obtain ⟨as, q⟩ := readsAll_mk _ _ h4 ih
    exact ⟨_, .list h1 h2 h3 q⟩
  | tuple h1 h2 h3 h4 _ ih =>
    obtain ⟨as, q⟩ := readsAll_mk _ _ h4 ih
    exact ⟨_, .tuple h1 h2 h3 q⟩
  | @dict a o es n kvs h1 h2 h3 _ h4 _ _ ih1 ih2 =>
    have k1 : ∃ as, ReadsAll h (es.toList.map (·.key)) (kvs.map (·.1)) as := readsAll_mk _ _ (by simpa using h4) fun i u p e1 e2 => by
      rw [List.getElem?_map] at e1 e2
      cases q1 : es.toList[i]? with
      | none => rw [q1] at e1; cases e1
      | some e =>
        cases q2 : kvs[i]? with
        | none => rw [q2] at e2; cases e2
        | some q =>
          rw [q1] at e1; rw [q2] at e2; cases e1; cases e2
          exact ih1 i e q q1 q2
    have k2 : ∃ as, ReadsAll h (es.toList.map (·.val)) (kvs.map (·.2)) as := readsAll_mk _ _ (by simpa using h4) fun i u p e1 e2 => by
      rw [List.getElem?_map] at e1 e2
      cases q1 : es.toList[i]? with
      | none => rw [q1] at e1; cases e1
      | some e =>
        cases q2 : kvs[i]? with
        | none => rw [q2] at e2; cases e2
        | some q =>
          rw [q1] at e1; rw [q2] at e2; cases e1; cases e2
          exact ih2 i e q q1 q2
    obtain ⟨as, k1⟩ := k1
    obtain ⟨bs, k2⟩ := k2
    exact ⟨_, .dict h1 h2 h3 k1 k2⟩
section
variable {prog : Program} {w : World} {h : Heap}
def RK (prog : Program) (w : World) (h : Heap) (u : Value) (p : PyData) : Prop := p.showable = true → p.shown.length ≤ sizeLine → ∃ bs, ReadAtMost h p.depth bs ∧ ReprK prog w bs h p.depth u p.shown
theorem rk_all : ∀ (us : List Value) (ps : List PyData), us.length = ps.length → (∀ (i : Nat) u p, us[i]? = some u → ps[i]? = some p → RK prog w h u p) → PyData.showableAll ps = true → (∀ t ∈ PyData.shownAll ps, t.length ≤ sizeLine) →
    ∃ bs, ReadAtMost h (PyData.depthAll ps) bs ∧ ReprAllK prog w bs h (PyData.depthAll ps) us (PyData.shownAll ps)
  | [], [], _, _, _, _ => ⟨[], (fun _ z => nomatch z), by simp only [PyData.shownAll]; exact .nil⟩
  | [], _ :: _, hl, _, _, _ => by simp at hl
  | _ :: _, [], hl, _, _, _ => by simp at hl
  | u :: us, p :: ps, hl, hf, hs, hz => by
    simp only [PyData.showableAll, Bool.and_eq_true] at hs
    simp only [PyData.shownAll, List.mem_cons] at hz
    obtain ⟨c1, m1, q1⟩ := hf 0 u p rfl rfl hs.1 (hz _ (.inl rfl))
    obtain ⟨c2, m2, q2⟩ := rk_all us ps (by simpa using hl) (fun i u' p' e1 e2 => hf (i + 1) u' p' (by simpa using e1) (by simpa using e2)) hs.2 fun t ht => hz t (.inr ht)
    have l1 : p.depth ≤ PyData.depthAll (p :: ps) := by simp only [PyData.depthAll]; exact Nat.le_max_left _ _
    have l2 : PyData.depthAll ps ≤ PyData.depthAll (p :: ps) := by simp only [PyData.depthAll]; exact Nat.le_max_right _ _
    refine ⟨c1 ++ c2, (m1.mono l1).append (m2.mono l2), ?_⟩
    simp only [PyData.shownAll]
    exact .cons ((q1.more fun b z => List.mem_append.mpr (.inl z)).level_le l1) (q2.more_le (fun b z => List.mem_append.mpr (.inr z)) l2)
theorem rk_list {a : Addr} {o : Obj} {us : Array Value} {n : Nat} {ps : List PyData} (h1 : h.get? a = some o) (h2 : o.cls = .type "list") (h3 : o.data = .seq us n) (rd : ∃ as, Reads h (.ref a) (.list ps) as) (hl : us.toList.length = ps.length)
    (hf : ∀ (i : Nat) u p, us.toList[i]? = some u → ps[i]? = some p → RK prog w h u p) (hs : PyData.showable (.list ps) = true) (hz : (PyData.shown (.list ps)).length ≤ sizeLine) :
    ∃ bs, ReadAtMost h (PyData.depthAll ps) bs ∧ a ∉ bs ∧ ReprAllK prog w bs h (PyData.depthAll ps) us.toList (PyData.shownAll ps) := by
  simp only [PyData.shown] at hz
  simp only [PyData.showable] at hs
  obtain ⟨bs, hb, hk⟩ := rk_all us.toList ps hl hf hs fun t ht => Nat.le_trans (listText_mem_le ht) hz
  obtain ⟨as, r⟩ := rd
  exact ⟨bs, hb, not_mem_of_deeper r (by simp only [PyData.depth]; omega) hb, hk⟩
theorem rk_tuple {a : Addr} {o : Obj} {us : Array Value} {n : Nat} {ps : List PyData} (h1 : h.get? a = some o) (h2 : o.cls = .type "tuple") (h3 : o.data = .seq us n) (rd : ∃ as, Reads h (.ref a) (.tuple ps) as) (hl : us.toList.length = ps.length)
    (hf : ∀ (i : Nat) u p, us.toList[i]? = some u → ps[i]? = some p → RK prog w h u p) (hs : PyData.showable (.tuple ps) = true) (hz : (PyData.shown (.tuple ps)).length ≤ sizeLine) :
    ∃ bs, ReadAtMost h (PyData.depthAll ps) bs ∧ a ∉ bs ∧ ReprAllK prog w bs h (PyData.depthAll ps) us.toList (PyData.shownAll ps) := by
  simp only [PyData.shown] at hz
  simp only [PyData.showable] at hs
  obtain ⟨bs, hb, hk⟩ := rk_all us.toList ps hl hf hs fun t ht => Nat.le_trans (tupleText_mem_le ht) hz
  obtain ⟨as, r⟩ := rd
  exact ⟨bs, hb, not_mem_of_deeper r (by simp only [PyData.depth]; omega) hb, hk⟩
theorem map_get {α β : Type} {f : α → β} {l : List α} {i : Nat} {b : β} (e : (l.map f)[i]? = some b) : ∃ a, l[i]? = some a ∧ b = f a := by
  rw [List.getElem?_map] at e
  cases q : l[i]? with
  | none => rw [q] at e; cases e
  | some a => rw [q] at e; cases e; exact ⟨a, rfl, rfl⟩
theorem rk_dict {a : Addr} {o : Obj} {es : Array DictEntry} {n : Nat} {kvs : List (PyData × PyData)} (h1 : h.get? a = some o) (h2 : o.cls = .type "dict") (h3 : o.data = .dict es n) (rd : ∃ as, Reads h (.ref a) (.dict kvs) as) (hl : es.toList.length = kvs.length)
    (hf : ∀ (i : Nat) e q, es.toList[i]? = some e → kvs[i]? = some q → RK prog w h e.key q.1) (hg : ∀ (i : Nat) e q, es.toList[i]? = some e → kvs[i]? = some q → RK prog w h e.val q.2) (hs : PyData.showable (.dict kvs) = true) (hz : (PyData.shown (.dict kvs)).length ≤ sizeLine) :
    ∃ bs, ReadAtMost h (PyData.depthKv kvs) bs ∧ a ∉ bs ∧ ReprEntriesK prog w bs h (PyData.depthKv kvs) es.toList (PyData.shownKv kvs) := by
  simp only [PyData.shown] at hz
  simp only [PyData.showable] at hs
  obtain ⟨s1, s2⟩ := PyData.showableKv_split kvs hs
  have up : ∀ (t : Str) (p : Str), p ∈ PyData.shownKv kvs → t.length ≤ p.length → t.length ≤ sizeLine := fun t p hp ht => Nat.le_trans ht (Nat.le_trans (dictText_mem_le hp) hz)
  obtain ⟨c1, m1, q1⟩ := rk_all (prog := prog) (w := w) (h := h) (es.toList.map (·.key)) (kvs.map (·.1)) (by simpa using hl) (fun i u p e1 e2 => by
    obtain ⟨e, x1, rfl⟩ := map_get e1
    obtain ⟨q, x2, rfl⟩ := map_get e2
    exact hf i e q x1 x2) s1 fun t ht => let ⟨p, hp, l⟩ := PyData.shownKv_key_le kvs t ht; up t p hp l
  obtain ⟨c2, m2, q2⟩ := rk_all (prog := prog) (w := w) (h := h) (es.toList.map (·.val)) (kvs.map (·.2)) (by simpa using hl) (fun i u p e1 e2 => by
    obtain ⟨e, x1, rfl⟩ := map_get e1
    obtain ⟨q, x2, rfl⟩ := map_get e2
    exact hg i e q x1 x2) s2 fun t ht => let ⟨p, hp, l⟩ := PyData.shownKv_val_le kvs t ht; up t p hp l
  obtain ⟨as, r⟩ := rd
  have hb : ReadAtMost h (PyData.depthKv kvs) (c1 ++ c2) := (m1.mono (PyData.depthAll_keys_le kvs)).append (m2.mono (PyData.depthAll_vals_le kvs))
  refine ⟨c1 ++ c2, hb, not_mem_of_deeper r (by simp only [PyData.depth]; omega) hb, ?_⟩
  rw [PyData.shownKv_eq]
  exact ReprEntriesK.of_two es.toList _ _ (q1.more_le (fun b z => List.mem_append.mpr (.inl z)) (PyData.depthAll_keys_le kvs)) (q2.more_le (fun b z => List.mem_append.mpr (.inr z)) (PyData.depthAll_vals_le kvs))
theorem SR.rk {v : Value} {d : PyData} (r : SR h v d) : RK prog w h v d := by
  induction r with
  | none => exact fun _ _ => ⟨[], (fun _ z => nomatch z), by simp only [PyData.shown]; exact .of_is ReprIs.none _ _ _⟩
  | bool b => exact fun _ _ => ⟨[], (fun _ z => nomatch z), by simp only [PyData.shown]; exact .of_is (ReprIs.bool b) _ _ _⟩
  | int i t => exact fun hs _ => ⟨[], (fun _ z => nomatch z), by simp only [PyData.shown]; exact .of_is (ReprIs.int t (by simpa [PyData.showable] using hs)) _ _ _⟩
  | str x t => exact fun _ hz => ⟨[], (fun _ z => nomatch z), by simp only [PyData.shown] at hz ⊢; exact .of_is (ReprIs.str x t hz) _ _ _⟩
  | @list a o us n ps h1 h2 h3 h4 h5 ih =>
    intro hs hz
    have rd := (SR.list h1 h2 h3 h4 h5).reads
    obtain ⟨bs, hb, hna, hk⟩ := rk_list h1 h2 h3 rd h4 ih hs hz
    obtain ⟨as, r⟩ := rd
    refine ⟨a :: bs, ReadAtMost.cons r (by simp only [PyData.depth]; omega) hb, ?_⟩
    simp only [PyData.depth, PyData.shown]
    obtain ⟨l⟩ := us
    cases l with
    | nil =>
      cases ps with
      | nil =>
        simp only [PyData.shownAll, listText_nil]
        exact ReprK.listEmpty h1 h2 h3
      | cons _ _ => simp at h4
    | cons x l => exact ReprK.list h1 h2 h3 hna (by simpa using hk.length_eq) fun i y e => hk.item i y (by simpa using e)
  | @tuple a o us n ps h1 h2 h3 h4 h5 ih =>
    intro hs hz
    have rd := (SR.tuple h1 h2 h3 h4 h5).reads
    obtain ⟨bs, hb, hna, hk⟩ := rk_tuple h1 h2 h3 rd h4 ih hs hz
    obtain ⟨as, r⟩ := rd
    refine ⟨a :: bs, ReadAtMost.cons r (by simp only [PyData.depth]; omega) hb, ?_⟩
    simp only [PyData.depth, PyData.shown]
    exact ReprK.tuple h1 h2 h3 hna hk
  | @dict a o es n kvs h1 h2 h3 hsys h4 h5 h6 ih1 ih2 =>
    intro hs hz
    have rd := (SR.dict h1 h2 h3 hsys h4 h5 h6).reads
    obtain ⟨bs, hb, hna, hk⟩ := rk_dict h1 h2 h3 rd h4 ih1 ih2 hs hz
    obtain ⟨as, r⟩ := rd
    refine ⟨a :: bs, ReadAtMost.cons r (by simp only [PyData.depth]; omega) hb, ?_⟩
    simp only [PyData.depth, PyData.shown]
    exact ReprK.dict h1 h2 h3 hsys hna hk
theorem SR.shows {a : Addr} {d : PyData} (r : SR h (.ref a) d) (hs : d.showable = true) (hz : d.shown.length ≤ sizeLine) : ∃ T idr, ShowsBy prog w h a d T idr := by
  have rd := r.reads
  cases r with
  | @list _ o us n ps h1 h2 h3 h4 h5 =>
    obtain ⟨bs, hb, hna, hk⟩ := rk_list h1 h2 h3 rd h4 (fun i u p e1 e2 => (h5 i u p e1 e2).rk) hs hz
    refine ⟨"list", "list.__repr__", F.slot_list_repr.toG, F.slot_list_str, F.slot_list_format, fun s k0 => ⟨o, k0 _ _ h1, h2⟩, fun A E s Q hg hu k0 hQ => ?_⟩
    simp only [PyData.depth] at hu
    simp only [PyData.shown] at hQ hz
    obtain ⟨l⟩ := us
    cases l with
    | nil =>
      cases ps with
      | nil =>
        simp only [PyData.shownAll, listText_nil] at hQ
        exact call_list_repr_empty ⟨o, k0 _ _ h1, h2⟩ (k0 _ _ h1) h3 (hQ s.heap _ _ fun _ _ e => e)
      | cons _ _ => simp at h4
    | cons x l => exact call_list_reprK h1 h2 h3 hna (by simpa using hk.length_eq) (fun i y e => hk.item i y (by simpa using e)) hg (fun b _ => Clear.nil b) hu k0 hQ hz
  | @tuple _ o us n ps h1 h2 h3 h4 h5 =>
    obtain ⟨bs, hb, hna, hk⟩ := rk_tuple h1 h2 h3 rd h4 (fun i u p e1 e2 => (h5 i u p e1 e2).rk) hs hz
    refine ⟨"tuple", "tuple.__repr__", F.slot_tuple_repr, F.slot_tuple_str, F.slot_tuple_format, fun s k0 => ⟨o, k0 _ _ h1, h2⟩, fun A E s Q hg hu k0 hQ => ?_⟩
    simp only [PyData.depth] at hu
    simp only [PyData.shown] at hQ hz
    exact call_tuple_reprK h1 h2 h3 hna hk hg (fun b _ => Clear.nil b) hu k0 hQ hz
  | @dict _ o es n kvs h1 h2 h3 hsys h4 h5 h6 =>
    obtain ⟨bs, hb, hna, hk⟩ := rk_dict h1 h2 h3 rd h4 (fun i u p e1 e2 => (h5 i u p e1 e2).rk) (fun i u p e1 e2 => (h6 i u p e1 e2).rk) hs hz
    refine ⟨"dict", "dict.__repr__", F.slot_dict_repr, F.slot_dict_str, F.slot_dict_format, fun s k0 => ⟨o, k0 _ _ h1, h2⟩, fun A E s Q hg hu k0 hQ => ?_⟩
    simp only [PyData.depth] at hu
    simp only [PyData.shown] at hQ hz
    exact call_dict_reprK h1 h2 h3 hsys hna hk hg (fun b _ => Clear.nil b) hu k0 hQ hz
theorem SR.repr {v : Value} {d : PyData} {A : Around} {E : Value → Shared → Prop} {s : Shared} {Q : Value → Shared → Prop} (r : SR s.heap v d) (hs : d.showable = true) (hz : d.shown.length ≤ sizeLine) (hg : A.guards = some []) (hu : A.units + (d.depth + 1) < cLine)
    (hQ : ∀ h' u tk, (∀ b o, s.heap.get? b = some o → h'.get? b = some o) → Q (.str d.shown u) { s with heap := h', toks := tk }) : wpAny (model prog w) A (call (.builtin "repr") [v]) Q E s := by
  have r' := r
  cases r with
  | none => simp only [PyData.shown] at hQ; exact PySem.P.repr_of_none (hQ s.heap _ _ fun _ _ e => e)
  | bool b => simp only [PyData.shown] at hQ; exact PySem.P.repr_of_bool (hQ s.heap _ _ fun _ _ e => e)
  | int i t => simp only [PyData.shown] at hQ; exact PySem.P.repr_of_int (by simpa [PyData.showable] using hs) (hQ s.heap _ _ fun _ _ e => e)
  | str x t => simp only [PyData.shown] at hQ hz; exact PySem.P.repr_of_str (hQ s.heap _ _ fun _ _ e => e) hz
  | list _ _ _ _ _ =>
    obtain ⟨T, idr, S⟩ := SR.shows (prog := prog) (w := w) r' hs hz
    exact call_repr_slot (by omega) (S.typeIs s fun _ _ e => e) S.slotRepr (S.call A.in1 E s _ hg (by show A.units + 1 + _ < cLine; omega) (fun _ _ e => e) fun h' u tk hk => ⟨_, _, rfl, hQ h' u tk hk⟩)
  | tuple _ _ _ _ _ =>
    obtain ⟨T, idr, S⟩ := SR.shows (prog := prog) (w := w) r' hs hz
    exact call_repr_slot (by omega) (S.typeIs s fun _ _ e => e) S.slotRepr (S.call A.in1 E s _ hg (by show A.units + 1 + _ < cLine; omega) (fun _ _ e => e) fun h' u tk hk => ⟨_, _, rfl, hQ h' u tk hk⟩)
  | dict _ _ _ _ _ _ _ =>
    obtain ⟨T, idr, S⟩ := SR.shows (prog := prog) (w := w) r' hs hz
    exact call_repr_slot (by omega) (S.typeIs s fun _ _ e => e) S.slotRepr (S.call A.in1 E s _ hg (by show A.units + 1 + _ < cLine; omega) (fun _ _ e => e) fun h' u tk hk => ⟨_, _, rfl, hQ h' u tk hk⟩)
end
def optAll {α β : Type} (f : α → Option β) : List α → Option (List β)
  | [] => some []
  | a :: r => match f a, optAll f r with
    | some b, some bs => some (b :: bs)
    | _, _ => none
theorem optAll_cons {α β : Type} {f : α → Option β} {a : α} {r : List α} {bs : List β} (h : optAll f (a :: r) = some bs) : ∃ b cs, bs = b :: cs ∧ f a = some b ∧ optAll f r = some cs := by
  unfold optAll at h
  split at h
  · rename_i b cs h1 h2
    cases h
    exact ⟨b, cs, rfl, h1, h2⟩
  · cases h
theorem optAll_length {α β : Type} {f : α → Option β} : ∀ {l : List α} {bs : List β}, optAll f l = some bs → l.length = bs.length
  | [], bs, h => by cases h; rfl
  | a :: r, bs, h => by
    obtain ⟨b, cs, rfl, _, h2⟩ := optAll_cons h
    simp [optAll_length h2]
theorem optAll_get {α β : Type} {f : α → Option β} : ∀ {l : List α} {bs : List β} {i : Nat} {a : α} {b : β}, optAll f l = some bs → l[i]? = some a → bs[i]? = some b → f a = some b
  | [], bs, i, a, b, h, e, _ => by simp at e
  | x :: r, bs, i, a, b, h, e1, e2 => by
    obtain ⟨y, cs, rfl, h1, h2⟩ := optAll_cons h
    cases i with
    | zero => simp at e1 e2; subst e1; subst e2; exact h1
    | succ i => exact optAll_get (i := i) h2 (by simpa using e1) (by simpa using e2)
def keyP : Key → PyData
  | .inl i => .int i
  | .inr x => .str x
def toP (ah : AH) : Nat → D → Option PyData
  | 0, _ => none
  | f + 1, d => match d with
    | .non => some .none
    | .bl b => some (.bool b)
    | .int i => some (.int i)
    | .str x => some (.str x)
    | .tup ds => (optAll (toP ah f) ds).map .tuple
    | .ref n => match ah[n]? with
      | some (.lst ds) => (optAll (toP ah f) ds).map .list
      | some (.ro ds) => (optAll (toP ah f) ds).map .list
      | some (.dK kvs) => (optAll (toP ah f) (kvs.map (·.2))).map fun vs => .dict ((kvs.map fun kv => keyP kv.1).zip vs)
      | _ => none
    | .cst _ => none
    | .glo _ => none
    | .xv _ _ _ _ => none
def deep : Nat := 63
abbrev pd (ah : AH) (d : D) : Option PyData := toP ah deep d
theorem pairs_get {P : Program} {w : World} {es : List DictEntry} {kvs : List (Key × Value)} (p : Pairs (mixKind P w) es kvs) : es.length = kvs.length ∧ ∀ (i : Nat) e q, es[i]? = some e → kvs[i]? = some q → keyIs q.1 e.key = true ∧ e.val = q.2 := by
  induction p with
  | nil => exact ⟨rfl, fun i e q z => by simp at z⟩
  | cons h1 h2 _ ih =>
    refine ⟨by simp [ih.1], fun i e q z1 z2 => ?_⟩
    cases i with
    | zero => simp at z1 z2; subst z1; subst z2; exact ⟨h1, h2⟩
    | succ i => exact ih.2 i e q (by simpa using z1) (by simpa using z2)
theorem kv_get {kvs : List (Key × V)} {vs : List (Key × Value)} (r : KV kvs vs) : kvs.length = vs.length ∧ ∀ (i : Nat) a b, kvs[i]? = some a → vs[i]? = some b → a.1 = b.1 ∧ RelV a.2 b.2 := by
  refine ⟨KV.length r, ?_⟩
  induction r with
  | nil => exact fun i a b z => by simp at z
  | cons h1 _ ih =>
    intro i a b z1 z2
    cases i with
    | zero => simp at z1 z2; subst z1; subst z2; exact h1
    | succ i => exact ih i a b (by simpa using z1) (by simpa using z2)
section
variable {X : Cx} {pins : List (Addr × Obj)} {σ : L2.St} {μ : List Addr} {H : Hp} {s : Shared} {ah : AH}
theorem Inv.sr (I : Inv X pins σ H s) (S : Sim X.K μ H ah) : ∀ (f : Nat) (d : D) (v : V) (u : Value) (p : PyData), toP ah f d = some p → Rep X.K μ H d v → RelV v u → SR s.heap u p
  | 0, _, _, _, _, h, _, _ => by cases h
  | f + 1, d, v, u, p, h, r, ru => by
    have seqs : ∀ (ds : List D) (vs : List V) (us : List Value) (ps : List PyData), optAll (toP ah f) ds = some ps → Reps X.K μ H ds vs → Vals vs us → us.length = ps.length ∧ ∀ (i : Nat) u p, us[i]? = some u → ps[i]? = some p → SR s.heap u p := fun ds vs us ps h1 h2 h3 => by
      refine ⟨by rw [← h3.length, ← h2.length]; exact optAll_length h1, fun i u p e1 e2 => ?_⟩
      have hi : i < ds.length := by rw [optAll_length h1]; exact (List.getElem?_eq_some_iff.mp e2).1
      have e3 : ds[i]? = some ds[i] := List.getElem?_eq_getElem hi
      obtain ⟨v, e4, rv⟩ := h2.get e3
      obtain ⟨u', e5, ru'⟩ := h3.get e4
      rw [e1] at e5; cases e5
      exact Inv.sr I S f _ v u p (optAll_get h1 e3 e2) rv ru'
    cases d with
    | non => cases h; rw [d_non r] at ru; cases ru; exact .none
    | bl b => cases h; rw [d_bl r] at ru; cases ru; exact .bool b
    | int i => cases h; rw [d_int r] at ru; obtain ⟨t, rfl⟩ := ru; exact .int i t
    | str x => cases h; rw [d_str r] at ru; obtain ⟨t, rfl⟩ := ru; exact .str x t
    | cst v => cases h
    | glo v => cases h
    | xv a d ks ds => cases h
    | tup ds =>
      obtain ⟨ps, h1, rfl⟩ := Option.map_eq_some_iff.mp h
      obtain ⟨a, vs, rfl, q, r2⟩ := d_tup r
      cases ru
      obtain ⟨its, rv, ⟨o, e1, e2, n, e3⟩, _⟩ := I.tuple q
      obtain ⟨l, g⟩ := seqs ds vs its ps h1 r2 rv
      exact .tuple e1 e2 e3 l g
    | ref n =>
      obtain ⟨a, ea, rfl⟩ := d_ref r
      cases ru
      have lists : ∀ ds ps, listAt ah n = some ds → optAll (toP ah f) ds = some ps → SR s.heap (.ref a) (.list ps) := fun ds ps hl h1 => by
        obtain ⟨b, vs, eb, q, r2⟩ := S.list hl
        rw [ea] at eb; cases eb
        obtain ⟨its, rv, ⟨o, m, e1, e2, _, e3⟩, _⟩ := I.list q
        obtain ⟨l, g⟩ := seqs ds vs its ps h1 r2 rv
        exact .list e1 e2 e3 l g
      unfold toP at h
      dsimp only at h
      split at h
      · rename_i ds e
        obtain ⟨ps, h1, rfl⟩ := Option.map_eq_some_iff.mp h
        exact lists ds ps (by unfold listAt; rw [e]) h1
      · rename_i ds e
        obtain ⟨ps, h1, rfl⟩ := Option.map_eq_some_iff.mp h
        exact lists ds ps (by unfold listAt; rw [e]) h1
      · rename_i kvs e
        obtain ⟨ps, h1, rfl⟩ := Option.map_eq_some_iff.mp h
        obtain ⟨kws, e0, ek, r2⟩ := S.ok n a _ ea e
        obtain ⟨_, hsys, vs, rkv, o, es, ep, e1, e2, e3, _, pr, _⟩ := dk_of I.hok e0
        obtain ⟨l1, g1⟩ := pairs_get pr
        obtain ⟨l2, g2⟩ := kv_get rkv
        have l3 : kvs.length = kws.length := by simpa using congrArg List.length ek
        have l4 : (kvs.map (·.2)).length = ps.length := optAll_length h1
        rw [List.length_map] at l4
        have key : ∀ (i : Nat) e q, es.toList[i]? = some e → ((kvs.map fun kv => keyP kv.1).zip ps)[i]? = some q → SR s.heap e.key q.1 ∧ SR s.heap e.val q.2 := fun i e q x1 x2 => by
          obtain ⟨x3, x4⟩ := List.getElem?_zip_eq_some.mp x2
          obtain ⟨kv, x5, x6⟩ := map_get x3
          have hi : i < kws.length := by rw [← l3]; exact (List.getElem?_eq_some_iff.mp x5).1
          have x7 : kws[i]? = some kws[i] := List.getElem?_eq_getElem hi
          have x8 : vs[i]? = some (vs[i]'(by omega)) := List.getElem?_eq_getElem _
          obtain ⟨y1, y2⟩ := g2 i _ _ x7 x8
          obtain ⟨y3, y4⟩ := g1 i _ _ x1 x8
          have z1 : kv.1 = kws[i].1 := by
            have z := congrArg (fun l => l[i]?) ek
            simp only [List.getElem?_map, x5, x7, Option.map_some] at z
            exact Option.some.inj z
          have x9 : (kvs.map (·.2))[i]? = some kv.2 := by rw [List.getElem?_map, x5]; rfl
          obtain ⟨v, y5, y6⟩ := r2.get x9
          have z2 : v = kws[i].2 := by
            rw [List.getElem?_map, x7] at y5
            exact (Option.some.inj y5).symm
          subst z2
          refine ⟨?_, ?_⟩
          · rw [x6]
            rw [← y1, ← z1] at y3
            rcases keyIs_shape y3 with ⟨j, t, k1, k2⟩ | ⟨x, t, k1, k2⟩
            · rw [k1, k2]; exact .int j t
            · rw [k1, k2]; exact .str x t
          · rw [y4]
            exact Inv.sr I S f kv.2 _ _ q.2 (optAll_get h1 x9 x4) y6 y2
        refine .dict e1 e2.1 e3 hsys ?_ (fun i e q x1 x2 => (key i e q x1 x2).1) fun i e q x1 x2 => (key i e q x1 x2).2
        rw [l1, ← l2, List.length_zip, List.length_map]
        omega
      · cases h
end
end HA
namespace HA
open PySem PySem.Spec PyProof.Rows L2
structure Rm (k : Nat) (A : Around) : Prop where
  room : Room k A
  gd : A.guards = some []
theorem Rm.mono {j k : Nat} {A : Around} (r : Rm k A) (h : j ≤ k) : Rm j A := ⟨r.room.mono h, r.gd⟩
theorem Rm.u65 {k : Nat} {A : Around} (r : Rm k A) : A.units + 65 < cLine := by have := r.room.un; omega
theorem Rm.u64 {k : Nat} {A : Around} (r : Rm k A) : A.units + 64 < cLine := by have := r.room.un; omega
theorem Rm.u1 {k : Nat} {A : Around} (r : Rm k A) : A.units + 1 < cLine := by have := r.room.un; omega
def eqData (ah : AH) (x y : D) : Option Bool := match pd ah x, pd ah y with
  | some p, some q => if SeqAt.shaped p = true ∧ SeqAt.shaped q = true then some (PyData.eqv p q) else none
  | _, _ => none
def eqLen (ah : AH) (x y : D) : Option Bool := match x, y with
  | .tup xs, .tup ys => if xs.isEmpty || ys.isEmpty then some (xs.isEmpty && ys.isEmpty) else none
  | .ref n, .ref m => match listAt ah n, listAt ah m with
    | some xs, some ys => if xs.length ≠ ys.length then some false else none
    | _, _ => none
  | _, _ => none
def cEq : D → D → AH → Res Bool
  | .int i, .int j, ah => .ok (decide (i = j)) ah
  | .str a, .str b, ah => .ok (decide (a = b)) ah
  | .bl a, .bl b, ah => .ok (decide (a = b)) ah
  | x, y, ah => match eqData ah x y with
    | some b => .ok b ah
    | none => match eqLen ah x y with
      | some b => .ok b ah
      | none => .stuck
def cNe (x y : D) (ah : AH) : Res Bool := (cEq x y ah).bind fun b ah => .ok (!b) ah
section
variable {X : Cx} {W : WX} {k : Nat}
theorem rEq_scal {K : PySem.W.Frag} {Wx : Value → Option Addr → Hp → Prop} {H : Hp} {Q : VK} {μ : List Addr} {ah : AH} {a b : V} {c : Bool} (hs : scal a b = true) (hc : decide (a = b) = c) (hp : Post K RBV Wx μ H Q (.ok c ah)) (S : Sim K μ H ah) : rEq a b H Q := ⟨hs, hp.ok1 S (by rw [hc]; rfl)⟩
theorem op_eqS (hu : X.A.units + 64 < cLine) : OpR X (compareOp .Eq) (fun x y H Q => ∃ μ ah dx dy b, Sim X.K μ H ah ∧ Rep X.K μ H dx x ∧ Rep X.K μ H dy y ∧ eqData ah dx dy = some b ∧ Q (.bl b) H) := by
  intro pins s σ H x y v u Q I rx ry ⟨μ, ah, dx, dy, b, S, r1, r2, e, q⟩
  unfold eqData at e
  split at e
  · rename_i p1 p2 e1 e2
    split at e
    · rename_i hs
      cases e
      obtain ⟨as, q1⟩ := (Inv.sr I S deep dx x v p1 e1 r1 rx).reads
      obtain ⟨bs, q2⟩ := (Inv.sr I S deep dy y u p2 e2 r2 ry).reads
      exact SeqAt.compareEq_shaped q1 q2 hs.1 hs.2 hu ⟨.bl _, H, I, rfl, q⟩
    · cases e
  · cases e
theorem op_neS (hu : X.A.units + 64 < cLine) : OpR X (compareOp .NotEq) (fun x y H Q => ∃ μ ah dx dy b, Sim X.K μ H ah ∧ Rep X.K μ H dx x ∧ Rep X.K μ H dy y ∧ eqData ah dx dy = some b ∧ Q (.bl (!b)) H) := by
  intro pins s σ H x y v u Q I rx ry ⟨μ, ah, dx, dy, b, S, r1, r2, e, q⟩
  unfold eqData at e
  split at e
  · rename_i p1 p2 e1 e2
    split at e
    · rename_i hs
      cases e
      obtain ⟨as, q1⟩ := (Inv.sr I S deep dx x v p1 e1 r1 rx).reads
      obtain ⟨bs, q2⟩ := (Inv.sr I S deep dy y u p2 e2 r2 ry).reads
      exact SeqAt.compareNe_shaped q1 q2 hs.1 hs.2 hu ⟨.bl _, H, I, rfl, q⟩
    · cases e
  · cases e
theorem range_empty {e : Nat → Bool} {m n : Nat} (h : m = 0 ∨ n = 0) : ((List.range (min m n)).all e && (m == n)) = (decide (m = 0) && decide (n = 0)) := by
  rcases h with h | h
  · subst h; simp; cases n <;> simp
  · subst h; simp; cases m <;> simp
theorem isEmpty_arr {α β : Type} {a : List α} {b : List β} (h : a.length = b.length) : a.isEmpty = decide (b.toArray.size = 0) := by
  cases a with
  | nil => cases b with
    | nil => rfl
    | cons y ys => simp at h
  | cons x xs => cases b with
    | nil => simp at h
    | cons y ys => simp
theorem eqLen_at {pins : List (Addr × Obj)} {σ : L2.St} {H : Hp} {s : Shared} {μ : List Addr} {ah : AH} {dx dy : D} {x y : V} {v u : Value} {b : Bool} (I : Inv X pins σ H s) (S : Sim X.K μ H ah) (r1 : Rep X.K μ H dx x) (r2 : Rep X.K μ H dy y) (rx : RelV x v) (ry : RelV y u) (e : eqLen ah dx dy = some b) (hu : X.A.units < cLine) :
    SeqAt.RcAt X.A s v u b ∧ SeqAt.RcNeAt X.A s v u (!b) := by
  unfold eqLen at e
  split at e
  · rename_i xs ys
    obtain ⟨a, vs, rfl, q1, rr1⟩ := d_tup r1
    obtain ⟨c, ws, rfl, q2, rr2⟩ := d_tup r2
    cases rx; cases ry
    obtain ⟨its, w1, p1, _⟩ := I.tuple q1
    obtain ⟨its2, w2, p2, _⟩ := I.tuple q2
    have l1 : xs.length = its.length := rr1.length.trans w1.length
    have l2 : ys.length = its2.length := rr2.length.trans w2.length
    split at e
    · rename_i hz
      cases e
      have hz' : its.toArray.size = 0 ∨ its2.toArray.size = 0 := by
        rw [isEmpty_arr l1, isEmpty_arr l2, Bool.or_eq_true, decide_eq_true_eq, decide_eq_true_eq] at hz
        exact hz
      have he : ∀ j (h1 : j < its.toArray.size) (h2 : j < its2.toArray.size), SeqAt.EqAt X.A.in1 s its.toArray[j] its2.toArray[j] ((fun _ => true) j) := fun j h1 h2 => by omega
      have A1 := SeqAt.RcAt.tuples (e := fun _ => true) p1 p2 hu he
      have A2 := SeqAt.RcNeAt.tuples (e := fun _ => true) p1 p2 hu he
      rw [range_empty hz'] at A1 A2
      rw [isEmpty_arr l1, isEmpty_arr l2]
      exact ⟨A1, A2⟩
    · cases e
  · rename_i n m
    split at e
    · rename_i xs ys e1 e2
      split at e
      · rename_i hz
        cases e
        obtain ⟨a, vs, m1, q1, rr1⟩ := S.list e1
        obtain ⟨c, ws, m2, q2, rr2⟩ := S.list e2
        obtain ⟨a', m1', rfl⟩ := d_ref r1
        obtain ⟨c', m2', rfl⟩ := d_ref r2
        rw [m1] at m1'; cases m1'
        rw [m2] at m2'; cases m2'
        cases rx; cases ry
        obtain ⟨its, w1, ⟨o1, n1, g1, c1, _, d1⟩, _⟩ := I.list q1
        obtain ⟨its2, w2, ⟨o2, n2, g2, c2, _, d2⟩, _⟩ := I.list q2
        have l1 : xs.length = its.length := rr1.length.trans w1.length
        have l2 : ys.length = its2.length := rr2.length.trans w2.length
        have hs : (its.toArray.size != its2.toArray.size) = true := by
          rw [List.size_toArray, List.size_toArray, bne_iff_ne]
          omega
        exact ⟨SeqAt.RcAt.lists_lengths ⟨o1, g1, c1, n1, d1⟩ ⟨o2, g2, c2, n2, d2⟩ hs hu, SeqAt.RcNeAt.lists_lengths ⟨o1, g1, c1, n1, d1⟩ ⟨o2, g2, c2, n2, d2⟩ hs hu⟩
      · cases e
    · cases e
  · cases e
def rLen (neg : Bool) (K : PySem.W.Frag) : R2 := fun x y H Q => ∃ μ ah dx dy b, Sim K μ H ah ∧ Rep K μ H dx x ∧ Rep K μ H dy y ∧ eqLen ah dx dy = some b ∧ Q (.bl (if neg = true then !b else b)) H
theorem op_eqLen (hu : X.A.units + 64 < cLine) : OpR X (compareOp .Eq) (rLen false X.K) := by
  intro pins s σ H x y v u Q I rx ry ⟨μ, ah, dx, dy, b, S, r1, r2, e, q⟩
  exact (eqLen_at I S r1 r2 rx ry e (by omega)).1 _ _ _ _ ⟨.bl b, H, I, rfl, q⟩
theorem op_neLen (hu : X.A.units + 64 < cLine) : OpR X (compareOp .NotEq) (rLen true X.K) := by
  intro pins s σ H x y v u Q I rx ry ⟨μ, ah, dx, dy, b, S, r1, r2, e, q⟩
  exact (eqLen_at I S r1 r2 rx ry e (by omega)).2 _ _ _ _ ⟨.bl (!b), H, I, rfl, q⟩
theorem od_eq (hr : Rm k X.A) : OpD X RBV (compareOp .Eq) cEq := fun Wx => by
  refine OpR.imp ((op_eq.or (op_eqS hr.u64)).or (op_eqLen hr.u64)) fun x y H Q ⟨μ, ah, dx, dy, S, rx, ry, hp⟩ => ?_
  unfold cEq at hp
  split at hp
  · rw [d_int rx, d_int ry]; exact .inl (.inl (rEq_scal rfl (by simp) hp S))
  · rw [d_str rx, d_str ry]; exact .inl (.inl (rEq_scal rfl (by simp) hp S))
  · rw [d_bl rx, d_bl ry]; exact .inl (.inl (rEq_scal rfl (by simp) hp S))
  · split at hp
    · rename_i b e
      exact .inl (.inr ⟨μ, ah, dx, dy, b, S, rx, ry, e, hp.ok1 S rfl⟩)
    · split at hp
      · rename_i b e
        exact .inr ⟨μ, ah, dx, dy, b, S, rx, ry, e, hp.ok1 S rfl⟩
      · exact hp.elim
theorem od_ne (hr : Rm k X.A) : OpD X RBV (compareOp .NotEq) cNe := fun Wx => by
  refine OpR.imp ((op_ne.or (op_neS hr.u64)).or (op_neLen hr.u64)) fun x y H Q ⟨μ, ah, dx, dy, S, rx, ry, hp⟩ => ?_
  unfold cNe cEq at hp
  split at hp
  · rw [d_int rx, d_int ry]; exact .inl (.inl ⟨rfl, Post.ok1 (R := RBV) hp S (by show _ = _; simp)⟩)
  · rw [d_str rx, d_str ry]; exact .inl (.inl ⟨rfl, Post.ok1 (R := RBV) hp S (by show _ = _; simp)⟩)
  · rw [d_bl rx, d_bl ry]; exact .inl (.inl ⟨rfl, Post.ok1 (R := RBV) hp S (by show _ = _; simp)⟩)
  · split at hp
    · rename_i b e
      exact .inl (.inr ⟨μ, ah, dx, dy, b, S, rx, ry, e, Post.ok1 (R := RBV) hp S rfl⟩)
    · split at hp
      · rename_i b e
        exact .inr ⟨μ, ah, dx, dy, b, S, rx, ry, e, Post.ok1 (R := RBV) hp S rfl⟩
      · exact hp.elim
def cLt : D → D → AH → Res Bool
  | .int i, .int j, ah => .ok (decide (i < j)) ah
  | .str a, .str b, ah => .ok (decide (a.cps.toList < b.cps.toList)) ah
  | _, _, _ => .stuck
def cLe : D → D → AH → Res Bool
  | .int i, .int j, ah => .ok (decide (i ≤ j)) ah
  | _, _, _ => .stuck
def cGt : D → D → AH → Res Bool
  | .int i, .int j, ah => .ok (decide (j < i)) ah
  | _, _, _ => .stuck
def cGe : D → D → AH → Res Bool
  | .int i, .int j, ah => .ok (decide (j ≤ i)) ah
  | _, _, _ => .stuck
theorem od_lt : OpD X RBV (compareOp .Lt) cLt := fun Wx => by
  refine OpR.imp (op_lt.or op_lt_str) fun x y H Q ⟨μ, ah, dx, dy, S, rx, ry, hp⟩ => ?_
  unfold cLt at hp
  split at hp
  · rw [d_int rx, d_int ry]; exact .inl ⟨_, _, rfl, rfl, hp.ok1 S rfl⟩
  · rw [d_str rx, d_str ry]; exact .inr ⟨_, _, rfl, rfl, hp.ok1 S rfl⟩
  · exact hp.elim
theorem od_le : OpD X RBV (compareOp .LtE) cLe := fun Wx => by
  refine OpR.imp op_le fun x y H Q ⟨μ, ah, dx, dy, S, rx, ry, hp⟩ => ?_
  unfold cLe at hp
  split at hp
  · rw [d_int rx, d_int ry]; exact ⟨_, _, rfl, rfl, hp.ok1 S rfl⟩
  · exact hp.elim
theorem od_gt : OpD X RBV (compareOp .Gt) cGt := fun Wx => by
  refine OpR.imp op_gt fun x y H Q ⟨μ, ah, dx, dy, S, rx, ry, hp⟩ => ?_
  unfold cGt at hp
  split at hp
  · rw [d_int rx, d_int ry]; exact ⟨_, _, rfl, rfl, hp.ok1 S rfl⟩
  · exact hp.elim
theorem od_ge : OpD X RBV (compareOp .GtE) cGe := fun Wx => by
  refine OpR.imp op_ge fun x y H Q ⟨μ, ah, dx, dy, S, rx, ry, hp⟩ => ?_
  unfold cGe at hp
  split at hp
  · rw [d_int rx, d_int ry]; exact ⟨_, _, rfl, rfl, hp.ok1 S rfl⟩
  · exact hp.elim
def strIn (x y : Str) : Bool := !(Builtin.Str.occurrences y x 0 y.length 1).isEmpty
def dKey : D → Option Key
  | .int i => some (.inl i)
  | .str x => some (.inr x)
  | _ => none
def inData (ah : AH) (x : D) (ds : List D) : Option Bool := match pd ah x, optAll (toP ah 62) ds with
  | some p, some ps => if SeqAt.shaped p = true ∧ PyData.canLayAll0 ps = true then some (ps.any fun z => PyData.eqv z p) else none
  | _, _ => none
def cIn : D → D → AH → Res Bool
  | .str a, .str b, ah => .ok (strIn a b) ah
  | x, .tup ds, ah => match inData ah x ds with
    | some b => .ok b ah
    | none => .stuck
  | x, .ref n, ah => match ah[n]? with
    | some (.dK kvs) => match dKey x with
      | some k => .ok (kvs.any fun kv => decide (kv.1 = k)) ah
      | none => .stuck
    | some (.lst ds) => match inData ah x ds with
      | some b => .ok b ah
      | none => .stuck
    | _ => .stuck
  | _, _, _ => .stuck
def cNotIn (x y : D) (ah : AH) : Res Bool := (cIn x y ah).bind fun b ah => .ok (!b) ah
def inAsk (neg : Bool) (K : PySem.W.Frag) : R2 := fun x y H Q => ∃ μ ah dx dy ds b, Sim K μ H ah ∧ Rep K μ H dx x ∧ Rep K μ H dy y ∧ (dy = .tup ds ∨ ∃ n, dy = .ref n ∧ ah[n]? = some (.lst ds)) ∧ inData ah dx ds = some b ∧ Q (.bl (if neg then !b else b)) H
theorem inData_sr {pins : List (Addr × Obj)} {σ : L2.St} {H : Hp} {s : Shared} {μ : List Addr} {ah : AH} {dx dy : D} {ds : List D} {x y : V} {v u : Value} {b : Bool} (I : Inv X pins σ H s) (S : Sim X.K μ H ah) (r1 : Rep X.K μ H dx x) (r2 : Rep X.K μ H dy y)
    (rx : RelV x v) (ry : RelV y u) (hd : dy = .tup ds ∨ ∃ n, dy = .ref n ∧ ah[n]? = some (.lst ds)) (e : inData ah dx ds = some b) :
    ∃ p ps as bs, Reads s.heap v p as ∧ (Reads s.heap u (.tuple ps) bs ∨ Reads s.heap u (.list ps) bs) ∧ SeqAt.shaped p = true ∧ PyData.canLayAll0 ps = true ∧ b = ps.any fun z => PyData.eqv z p := by
  unfold inData at e
  split at e
  · rename_i p ps e1 e2
    split at e
    · rename_i hs
      cases e
      obtain ⟨as, q1⟩ := (Inv.sr I S deep dx x v p e1 r1 rx).reads
      rcases hd with rfl | ⟨n, rfl, en⟩
      · obtain ⟨bs, q2⟩ := (Inv.sr I S deep (.tup ds) y u (.tuple ps) (by unfold deep toP; simp only [e2, Option.map_some]) r2 ry).reads
        exact ⟨p, ps, as, bs, q1, .inl q2, hs.1, hs.2, rfl⟩
      · obtain ⟨bs, q2⟩ := (Inv.sr I S deep (.ref n) y u (.list ps) (by unfold deep toP; simp only [en, e2, Option.map_some]) r2 ry).reads
        exact ⟨p, ps, as, bs, q1, .inr q2, hs.1, hs.2, rfl⟩
    · cases e
  · cases e
theorem op_inS (hu : X.A.units + 65 < cLine) : OpR X (compareOp .In) (inAsk false X.K) := by
  intro pins s σ H x y v u Q I rx ry ⟨μ, ah, dx, dy, ds, b, S, r1, r2, hd, e, q⟩
  obtain ⟨p, ps, as, bs, q1, q2, c1, c2, rfl⟩ := inData_sr I S r1 r2 rx ry hd e
  rcases q2 with q2 | q2
  · exact SeqAt.in_tuple_reads q2 q1 c2 (SeqAt.canLay_of_shaped c1) (room_in_shaped c1 hu) ⟨.bl _, H, I, rfl, q⟩
  · exact SeqAt.in_list_reads q2 q1 c2 (SeqAt.canLay_of_shaped c1) (room_in_shaped c1 hu) ⟨.bl _, H, I, rfl, q⟩
theorem dKey_v {K : PySem.W.Frag} {μ : List Addr} {H : Hp} {d : D} {v : V} {k : Key} (h : dKey d = some k) (r : Rep K μ H d v) : v = kV k := by
  cases d <;> simp only [dKey, Option.some.injEq] at h <;> first | (subst h; first | exact d_int r | exact d_str r) | cases h
theorem dK_any {kvs : List (Key × D)} {kws : List (Key × V)} (h : kvs.map (·.1) = kws.map (·.1)) (k : Key) : (kvs.any fun kv => decide (kv.1 = k)) = (valV kws k).isSome := by
  rw [← valV_any]
  have e1 : (kvs.any fun kv => decide (kv.1 = k)) = (kvs.map (·.1)).any fun x => decide (x = k) := by rw [List.any_map]; rfl
  have e2 : (kws.any fun kv => decide (kv.1 = k)) = (kws.map (·.1)).any fun x => decide (x = k) := by rw [List.any_map]; rfl
  rw [e1, e2, h]
theorem op_inDict (hu : X.A.units + 1 < cLine) : OpR X (compareOp .In) (fun x y H Q => ∃ a kvs k, y = .ref a ∧ H a = some (.dK kvs) ∧ x = kV k ∧ Q (.bl (valV kvs k).isSome) H) := by
  intro pins s σ H x y v u Q I rx ry hx
  obtain ⟨a, kvs, k, rfl, e, rfl, q⟩ := hx
  cases ry
  exact d_in hu I (DGet.k e) rx fun s' I' => ⟨.bl _, H, I', rfl, q⟩
theorem od_in (hr : Rm k X.A) : OpD X RBV (compareOp .In) cIn := fun Wx => by
  refine OpR.imp (op_in_str.or ((op_inS hr.u65).or (op_inDict hr.u1))) fun x y H Q ⟨μ, ah, dx, dy, S, rx, ry, hp⟩ => ?_
  unfold cIn at hp
  split at hp
  · rw [d_str rx, d_str ry]; exact .inl ⟨_, _, rfl, rfl, hp.ok1 S rfl⟩
  · split at hp
    · rename_i b e
      exact .inr (.inl ⟨μ, ah, dx, _, _, b, S, rx, ry, .inl rfl, e, hp.ok1 S rfl⟩)
    · exact hp.elim
  · split at hp
    · rename_i kvs e
      split at hp
      · rename_i kk ek
        obtain ⟨a, ea, rfl⟩ := d_ref ry
        obtain ⟨kws, e0, e1, _⟩ := S.ok _ a _ ea e
        refine .inr (.inr ⟨a, kws, kk, rfl, e0, dKey_v ek rx, hp.ok1 S ?_⟩)
        rw [dK_any e1]; rfl
      · exact hp.elim
    · rename_i ds e
      split at hp
      · rename_i b e'
        exact .inr (.inl ⟨μ, ah, dx, _, _, b, S, rx, ry, .inr ⟨_, rfl, e⟩, e', hp.ok1 S rfl⟩)
      · exact hp.elim
    · exact hp.elim
  · exact hp.elim
def D.isNon : D → Bool
  | .non => true
  | .cst w => decide (w = .non)
  | _ => false
def cIs : D → D → AH → Res Bool
  | .bl a, .bl b, ah => .ok (decide (a = b)) ah
  | x, .non, ah => .ok x.isNon ah
  | _, _, _ => .stuck
def cIsNot (x y : D) (ah : AH) : Res Bool := (cIs x y ah).bind fun b ah => .ok (!b) ah
theorem non_iff {K : PySem.W.Frag} {μ : List Addr} {H : Hp} {d : D} {v : V} (r : Rep K μ H d v) : decide (v = .non) = d.isNon := by
  cases d with
  | non => rw [d_non r]; rfl
  | bl b => rw [d_bl r]; rfl
  | int b => rw [d_int r]; rfl
  | str b => rw [d_str r]; rfl
  | tup ds => obtain ⟨a, vs, rfl, _⟩ := d_tup r; rfl
  | ref n => obtain ⟨a, _, rfl⟩ := d_ref r; rfl
  | glo w =>
    have e : v = .ref (gA K w) := by simpa only [Rep] using r
    rw [e]; rfl
  | xv a d ks ds =>
    simp only [Rep] at r
    rw [r.1]; rfl
  | cst w =>
    have e : v = w := by simpa only [Rep] using r
    rw [e]; rfl
theorem od_is : OpD X RBV (compareOp .Is) cIs := fun Wx => by
  refine OpR.imp (op_isBl.or op_isN) fun x y H Q ⟨μ, ah, dx, dy, S, rx, ry, hp⟩ => ?_
  unfold cIs at hp
  split at hp
  · rw [d_bl rx, d_bl ry]; exact .inl ⟨_, _, rfl, rfl, hp.ok1 S rfl⟩
  · rw [d_non ry]; exact .inr ⟨rfl, hp.ok1 S (by show _ = _; rw [non_iff rx])⟩
  · exact hp.elim
def truth (d : D) (ah : AH) : Res Bool := match d with
  | .non => .ok false ah
  | .bl b => .ok b ah
  | .int i => .ok (i != 0) ah
  | .str x => if x.length ≤ line then .ok ((x.length : Int) != 0) ah else .stuck
  | .tup ds => .ok (!ds.isEmpty) ah
  | .ref n => match ah[n]? with
    | some (.lst ds) => .ok (!ds.isEmpty) ah
    | some (.ro ds) => .ok (!ds.isEmpty) ah
    | some (.dK kvs) => .ok (!kvs.isEmpty) ah
    | _ => .stuck
  | .cst _ => .stuck
  | .glo _ => .stuck
  | .xv _ _ _ _ => .stuck
theorem isEmpty_len {α β : Type} {a : List α} {b : List β} (h : a.length = b.length) : a.isEmpty = b.isEmpty := by
  cases a <;> cases b <;> simp_all
theorem truth_v {K : PySem.W.Frag} {Wx : Value → Option Addr → Hp → Prop} {μ : List Addr} {H : Hp} {Q : Bool → Hp → Prop} {d : D} {v : V} {ah : AH} (S : Sim K μ H ah) (r : Rep K μ H d v) (hp : Post K RB Wx μ H Q (truth d ah)) : ∃ k, TruV K v H k ∧ Q k H := by
  cases d with
  | non => rw [d_non r]; exact ⟨_, rfl, hp.ok1 S rfl⟩
  | bl b => rw [d_bl r]; exact ⟨_, rfl, hp.ok1 S rfl⟩
  | int i => rw [d_int r]; exact ⟨_, rfl, hp.ok1 S rfl⟩
  | str x =>
    rw [d_str r]
    unfold truth at hp
    dsimp only at hp
    split at hp
    · rename_i hl
      exact ⟨_, ⟨line_le hl, rfl⟩, hp.ok1 S rfl⟩
    · exact hp.elim
  | tup ds =>
    obtain ⟨a, vs, rfl, q, r2⟩ := d_tup r
    exact ⟨_, .inr (.inl ⟨vs, q, by rw [isEmpty_len r2.length]⟩), hp.ok1 S rfl⟩
  | ref n =>
    obtain ⟨a, ea, rfl⟩ := d_ref r
    unfold truth at hp
    dsimp only at hp
    split at hp
    · rename_i ds e
      obtain ⟨b, vs, eb, q, r2⟩ := S.list (show listAt ah n = some ds by unfold listAt; rw [e])
      rw [ea] at eb; cases eb
      exact ⟨_, .inl ⟨vs, q, by rw [isEmpty_len r2.length]⟩, hp.ok1 S rfl⟩
    · rename_i ds e
      obtain ⟨b, vs, eb, q, r2⟩ := S.list (show listAt ah n = some ds by unfold listAt; rw [e])
      rw [ea] at eb; cases eb
      exact ⟨_, .inl ⟨vs, q, by rw [isEmpty_len r2.length]⟩, hp.ok1 S rfl⟩
    · rename_i kvs e
      obtain ⟨kws, e0, e1, _⟩ := S.ok n a _ ea e
      exact ⟨_, .inr (.inr ⟨kws, e0, by rw [isEmpty_len (by simpa using congrArg List.length e1)]⟩), hp.ok1 S rfl⟩
    · exact hp.elim
  | cst w => exact hp.elim
  | glo w => exact hp.elim
  | xv a d ks ds => exact hp.elim
theorem pb_val {e : Expr} {m : EM D} (h : PD X W e m) (he : ∀ whole, isTrue e X.env whole = (do let v ← whole; standAt e.pos; holding [v] (truthy v)) := by intro _; rfl) : PB X W e (e1 m truth) := by
  refine PT.weak (pt_truth h he) fun σ H Q ⟨μ, env, ah, he, hs, hp⟩ => ?_
  exact ⟨μ, env, ah, he, hs, hp.bind fun d ah1 μ1 x H1 e1 s1 r1 p1 => truth_v s1 r1 p1⟩
def bAnd (a b : EM Bool) : EM Bool := fun env ah => (a env ah).bind fun x ah1 => if x = true then b env ah1 else .ok false ah1
def bOr (a b : EM Bool) : EM Bool := fun env ah => (a env ah).bind fun x ah1 => if x = true then .ok true ah1 else b env ah1
def bNot (a : EM Bool) : EM Bool := fun env ah => (a env ah).bind fun x ah1 => .ok (!x) ah1
variable {a b : Expr} {rest : List Expr} {ma mb : EM Bool} {pos : Pos}
theorem pbw_or1 (ha : PB X W a ma) : PBw X W (.BoolOp .Or [a] pos) ma := pw_or1 ha
theorem pbw_or (ha : PB X W a ma) (hb : PBw X W (.BoolOp .Or (b :: rest) pos) mb) : PBw X W (.BoolOp .Or (a :: b :: rest) pos) (bOr ma mb) := by
  refine PW.weak (pw_or ha hb) fun σ H Q ⟨μ, env, ah, he, hs, hp⟩ => ?_
  refine ⟨μ, env, ah, he, hs, hp.bind fun d ah1 μ1 x H1 e1 s1 r1 p1 => ?_⟩
  cases (show d = x from r1)
  cases d with
  | true => exact Post.ok1 (R := RB) p1 s1 rfl
  | false => exact tG_next he e1 s1 p1
theorem pbw {e : Expr} {m : EM Bool} (h : PBw X W e m) : PB X W e m := PW.pt h
theorem pb_not (ha : PB X W a ma) : PB X W (.UnaryOp .Not a pos) (bNot ma) := by
  refine PT.weak (pt_not ha) fun σ H Q ⟨μ, env, ah, he, hs, hp⟩ => ?_
  refine ⟨μ, env, ah, he, hs, hp.bind fun d ah1 μ1 x H1 e1 s1 r1 p1 => ?_⟩
  cases (show d = x from r1)
  exact Post.ok1 (R := RB) p1 s1 rfl
def eAnd (a : EM D) (b : EM D) : EM D := fun env ah => (a env ah).bind fun x ah1 => (truth x ah1).bind fun k ah2 => if k = true then b env ah2 else .ok x ah2
def eOr (a : EM D) (b : EM D) : EM D := fun env ah => (a env ah).bind fun x ah1 => (truth x ah1).bind fun k ah2 => if k = true then .ok x ah2 else b env ah2
def eNot (a : EM D) : EM D := fun env ah => (a env ah).bind fun x ah1 => (truth x ah1).bind fun k ah2 => .ok (.bl (!k)) ah2
variable {na nb : EM D}
theorem truth_same {d : D} {ah : AH} : (∃ k, truth d ah = .ok k ah) ∨ truth d ah = .stuck := by
  unfold truth
  split <;> first | exact .inl ⟨_, rfl⟩ | exact .inr rfl | skip
  · split <;> first | exact .inl ⟨_, rfl⟩ | exact .inr rfl
  · split <;> first | exact .inl ⟨_, rfl⟩ | exact .inr rfl
theorem truth_tru {K : PySem.W.Frag} {μ : List Addr} {H : Hp} {d : D} {v : V} {ah : AH} {k : Bool} (S : Sim K μ H ah) (r : Rep K μ H d v) (e : truth d ah = .ok k ah) : TruV K v H k := by
  have h : Post K RB (fun _ _ _ => False) μ H (fun c H' => c = k ∧ True) (truth d ah) := by
    rw [e]
    exact fun μ' x H' _ _ r => ⟨(show k = x from r).symm, trivial⟩
  obtain ⟨c, t, q, _⟩ := truth_v S r h
  rw [← q]; exact t
theorem pd_one {op} {m : EM D} (h : PD X W a m) : PD X W (.BoolOp op [a] pos) m := pe_one h
theorem pd_and (ha : PD X W a na) (hb : PD X W (.BoolOp .And (b :: rest) pos) nb) : PD X W (.BoolOp .And (a :: b :: rest) pos) (eAnd na nb) := by
  refine PE.weak (pe_andT ha hb) fun σ H Q ⟨μ, env, ah, he, hs, hp⟩ => ?_
  refine ⟨μ, env, ah, he, hs, hp.bind fun d ah1 μ1 x H1 e1 s1 r1 p1 => ?_⟩
  rcases truth_same (d := d) (ah := ah1) with ⟨k, e⟩ | e
  · rw [e] at p1
    refine ⟨k, truth_tru s1 r1 e, ?_⟩
    cases k with
    | true => exact tG_next he e1 s1 p1
    | false => exact Post.ok1 (R := RD X.K) p1 s1 r1
  · rw [e] at p1; exact p1.elim
theorem pd_not (ha : PD X W a na) : PD X W (.UnaryOp .Not a pos) (eNot na) := by
  refine PE.weak (pe_notT ha) fun σ H Q ⟨μ, env, ah, he, hs, hp⟩ => ?_
  refine ⟨μ, env, ah, he, hs, hp.bind fun d ah1 μ1 x H1 e1 s1 r1 p1 => ?_⟩
  rcases truth_same (d := d) (ah := ah1) with ⟨k, e⟩ | e
  · rw [e] at p1
    exact ⟨k, truth_tru s1 r1 e, Post.ok1 (R := RD X.K) p1 s1 r_bl⟩
  · rw [e] at p1; exact p1.elim
def eIf {α : Type} (c : EM Bool) (a b : EM α) : EM α := fun env ah => (c env ah).bind fun x ah1 => if x = true then a env ah1 else b env ah1
theorem pd_if {c : Expr} {mc : EM Bool} (hc : PB X W c mc) (ha : PD X W a na) (hb : PD X W b nb) : PD X W (.IfExp c a b pos) (eIf mc na nb) := by
  refine PE.weak (pe_ifExp hc ha hb) fun σ H Q ⟨μ, env, ah, he, hs, hp⟩ => ?_
  refine ⟨μ, env, ah, he, hs, hp.bind fun d ah1 μ1 x H1 e1 s1 r1 p1 => ?_⟩
  cases (show d = x from r1)
  cases d with
  | true => exact tG_next he e1 s1 p1
  | false => exact tG_next he e1 s1 p1
def oNeg : D → AH → Res D
  | .int i, ah => .ok (.int (-i)) ah
  | _, _ => .stuck
theorem pd_neg (ha : PD X W a na) : PD X W (.UnaryOp .USub a pos) (e1 na oNeg) := by
  refine PE.weak (pe_un un_neg ha) fun σ H Q ⟨μ, env, ah, he, hs, hp⟩ => ?_
  refine ⟨μ, env, ah, he, hs, hp.bind fun d ah1 μ1 x H1 e1 s1 r1 p1 => ?_⟩
  cases d with
  | int i =>
    have q : Rep X.K μ1 H1 (.int i) x := r1
    rw [d_int q]; exact ⟨i, rfl, Post.ok1 (R := RD X.K) p1 s1 r_int⟩
  | _ => exact p1.elim
def aNil : EM (List D) := fun _ ah => .ok [] ah
def aCons (m : EM D) (r : EM (List D)) : EM (List D) := fun env ah => (m env ah).bind fun x ah1 => (r env ah1).bind fun xs ah2 => .ok (x :: xs) ah2
variable {e : Expr} {es : List Expr} {me : EM D} {mes : EM (List D)}
theorem pas_nil : PAs X W [] aNil := PA.weak pa_nil fun σ H Q ⟨μ, env, ah, he, hs, hp⟩ => Post.ok1 (R := RA X.K) hp hs (show Reps X.K μ H [] [] from Reps.nil)
theorem Post.cons {K : PySem.W.Frag} {Wx : Value → Option Addr → Hp → Prop} {μ : List Addr} {H : Hp} {x : V} {d : D} {Q : List V → Hp → Prop} {r : Res (List D)} (rx : Rep K μ H d x) (h : Post K (RA K) Wx μ H Q (r.bind fun xs ah2 => .ok (d :: xs) ah2)) : Post K (RA K) Wx μ H (fun xs H' => Q (x :: xs) H') r := by
  cases r with
  | ok ds ah => exact fun μ' xs H' e s rr => h μ' (x :: xs) H' e s (Reps.cons (rx.ext e) rr)
  | exn c fs ah => exact h
  | stuck => exact h
theorem pas_cons (ha : PD X W e me) (hr : PAs X W es mes) (hs : starEach (e :: es) X.env = (false, eval e X.env) :: starEach es X.env := by rfl) : PAs X W (e :: es) (aCons me mes) := by
  refine PA.weak (pa_cons ha hr hs) fun σ H Q ⟨μ, env, ah, he, hs, hp⟩ => ?_
  refine ⟨μ, env, ah, he, hs, hp.bind fun d ah1 μ1 x H1 e1 s1 r1 p1 => ?_⟩
  exact tG_next he e1 s1 (Post.cons r1 p1)
def eTup (m : EM (List D)) : EM D := e1 m fun ds ah => if ds.length ≤ line then .ok (.tup ds) ah else .stuck
theorem pd_tup {x1} (h : PAs X W es mes) : PD X W (.Tuple es x1 pos) (eTup mes) := by
  refine PE.weak (pe_tup h) fun σ H Q ⟨μ, env, ah, he, hs, hp⟩ => ?_
  refine ⟨μ, env, ah, he, hs, hp.bind fun ds ah1 μ1 vs H1 e1 s1 r1 p1 => ?_⟩
  have r : Reps X.K μ1 H1 ds vs := r1
  dsimp only at p1
  split at p1
  · rename_i hl
    exact ⟨line_le (by rw [← r.length]; exact hl), fun p hp => p1.newT s1 r hp⟩
  · exact p1.elim
def lLst (m : EM (List D)) : EM (List D) := e1 m fun ds ah => if ds.length ≤ line then .ok ds ah else .stuck
end
end HA
namespace HA
open PySem PySem.Spec PyProof.Rows L2
theorem Sim.adopt {K : PySem.W.Frag} {μ : List Addr} {H : Hp} {ah : AH} (S : Sim K μ H ah) {a : Addr} {o : AObj} (hr : o.isRo = false) (ha : a ∉ μ.tail) (h : OOk K (μ ++ [a]) H a o) : Sim K (μ ++ [a]) H (ah ++ [o]) := by
  have key : ∀ (n : Nat) (b : Addr) (q : AObj), (μ ++ [a])[n]? = some b → (ah ++ [o])[n]? = some q → (μ[n]? = some b ∧ ah[n]? = some q) ∨ (n = ah.length ∧ b = a ∧ q = o) := fun n b q e1 e2 => by
    by_cases hn : n < ah.length
    · rw [List.getElem?_append_left (by rw [S.len]; exact hn)] at e1
      rw [List.getElem?_append_left hn] at e2
      exact .inl ⟨e1, e2⟩
    · have hn' : n < (ah ++ [o]).length := (List.getElem?_eq_some_iff.mp e2).1
      have : n = ah.length := by simp at hn'; omega
      subst this
      rw [List.getElem?_append_right (by rw [S.len]; omega)] at e1
      rw [List.getElem?_append_right (Nat.le_refl _)] at e2
      rw [S.len] at e1
      simp at e1 e2
      exact .inr ⟨rfl, e1.symm, e2.symm⟩
  have tl : ∀ (n : Nat) (q : AObj), μ[n]? = some a → ah[n]? = some q → q.isRo = false → False := fun n q e1 e2 r => by
    have hn : n ≠ 0 := fun z => by
      have := (S.ro0 n q e2).mpr z
      rw [r] at this; cases this
    obtain ⟨k, rfl⟩ : ∃ k, n = k + 1 := ⟨n - 1, by omega⟩
    exact ha (List.mem_of_getElem? (i := k) (by rw [List.getElem?_tail]; exact e1))
  refine ⟨by simp [S.len], fun n m b q q' e1 e2 e3 e4 r1 r2 => ?_, fun n b q e1 e2 => ?_, by simp, fun n q e => ?_⟩
  · rcases key n b q e1 e3 with ⟨x1, x2⟩ | ⟨x1, x2, x3⟩
    · rcases key m b q' e2 e4 with ⟨y1, y2⟩ | ⟨y1, y2, y3⟩
      · exact S.nd n m b q q' x1 y1 x2 y2 r1 r2
      · subst y2; exact (tl n q x1 x2 r1).elim
    · rcases key m b q' e2 e4 with ⟨y1, y2⟩ | ⟨y1, y2, y3⟩
      · subst x2; exact (tl m q' y1 y2 r2).elim
      · rw [x1, y1]
  · rcases key n b q e1 e2 with ⟨x1, x2⟩ | ⟨x1, x2, x3⟩
    · exact (S.ok n b q x1 x2).mono (List.prefix_append _ _) TExt.refl (fun _ => rfl) fun _ _ z => z
    · rw [x2, x3]; exact h
  · by_cases hn : n < ah.length
    · rw [List.getElem?_append_left hn] at e
      exact S.ro0 n q e
    · have hn' : n < (ah ++ [o]).length := (List.getElem?_eq_some_iff.mp e).1
      have : n = ah.length := by simp at hn'; omega
      subst this
      rw [List.getElem?_append_right (Nat.le_refl _)] at e
      simp at e
      subst e
      have := S.pos
      constructor
      · intro z; rw [hr] at z; cases z
      · intro z; omega
theorem Ext.adopt {K : PySem.W.Frag} {μ μ1 : List Addr} {H H1 : Hp} {a : Addr} (e : Ext K μ H μ1 H1) (h0 : H a = none) (hp : 0 < μ1.length) : Ext K μ H (μ1 ++ [a]) H1 :=
  ⟨e.pre.trans (List.prefix_append _ _), e.tup, fun b hb => by
    rw [List.tail_append_of_ne_nil (by intro z; rw [z] at hp; exact absurd hp (by decide))] at hb
    rcases List.mem_append.mp hb with z | z
    · exact e.new b z
    · simp at z; rw [z]; exact .inr h0, e.keep, e.there⟩
theorem Sim.mpos {K : PySem.W.Frag} {μ : List Addr} {H : Hp} {ah : AH} (S : Sim K μ H ah) : 0 < μ.length := by rw [S.len]; exact S.pos
def RM (K : PySem.W.Frag) : Rel (List D) V := ⟨fun _ μ H ds v => ∃ a vs, v = .ref a ∧ SqL K H a vs ∧ Reps K μ H ds vs, fun _ h => h⟩
def PM (X : Cx) (W : WX) (e : Expr) (m : EM (List D)) : Prop := PE X e (tG X.K (RM X.K) W m)
section
variable {X : Cx} {W : WX} {k : Nat} {e : Expr} {es : List Expr} {m : EM D} {ml : EM (List D)} {pos : Pos}
theorem tG_rel {β γ : Type} {K : PySem.W.Frag} {R R' : Rel β γ} {mm : EM β} {σ : L2.St} {H : Hp} {Q : γ → Hp → Prop} (h : tG K R' W mm σ H Q) (k : ∀ H₀ μ H b c, R.r H₀ μ H b c → R'.r H₀ μ H b c) : tG K R W mm σ H Q := by
  obtain ⟨μ, env, ah, he, hs, hp⟩ := h
  refine ⟨μ, env, ah, he, hs, ?_⟩
  cases q : mm env ah with
  | ok d ah' => rw [q] at hp; exact fun μ' x H' e s r => hp μ' x H' e s (k _ _ _ _ _ r)
  | exn c fs ah' => rw [q] at hp; exact hp
  | stuck => rw [q] at hp; exact hp
theorem pm_l (h : PL X W e ml) : PM X W e ml := PE.weak h fun σ H Q q => tG_rel q fun _ _ _ _ _ ⟨a, vs, e, _, z, _, r⟩ => ⟨a, vs, e, SqL.of z, r⟩
theorem pq_m (h : PM X W e ml) : PQ X W e ml := PE.weak h fun σ H Q q => tG_rel q fun _ _ _ _ _ ⟨a, vs, e, z, r⟩ => ⟨a, vs, e, .inl z, r⟩
theorem pq_l (h : PL X W e ml) : PQ X W e ml := pq_m (pm_l h)
def listOf (d : D) (ah : AH) : Res (List D) := match d with
  | .ref n => match listAt ah n with
    | some ds => .ok ds ah
    | none => .stuck
  | _ => .stuck
def seqOf (d : D) (ah : AH) : Res (List D) := match d with
  | .tup ds => .ok ds ah
  | .ref n => match listAt ah n with
    | some ds => .ok ds ah
    | none => .stuck
  | _ => .stuck
theorem pm_d (h : PD X W e m) : PM X W e (e1 m listOf) := by
  refine PE.weak h fun σ H Q ⟨μ, env, ah, he, hs, hp⟩ => ?_
  refine ⟨μ, env, ah, he, hs, hp.bind fun d ah1 μ1 x H1 e1 s1 r1 p1 => ?_⟩
  cases d with
  | ref n =>
    obtain ⟨a, ea, rfl⟩ := d_ref (show Rep X.K μ1 H1 (.ref n) x from r1)
    unfold listOf at p1
    dsimp only at p1
    split at p1
    · rename_i ds e
      obtain ⟨b, vs, eb, q, r2⟩ := s1.list e
      rw [ea] at eb; cases eb
      exact Post.ok1 (R := RM X.K) p1 s1 ⟨a, vs, rfl, q, r2⟩
    · exact p1.elim
  | _ => exact p1.elim
theorem pq_d (h : PD X W e m) : PQ X W e (e1 m seqOf) := by
  refine PE.weak h fun σ H Q ⟨μ, env, ah, he, hs, hp⟩ => ?_
  refine ⟨μ, env, ah, he, hs, hp.bind fun d ah1 μ1 x H1 e1 s1 r1 p1 => ?_⟩
  cases d with
  | tup ds =>
    obtain ⟨a, vs, rfl, q, r2⟩ := d_tup (show Rep X.K μ1 H1 (.tup ds) x from r1)
    exact Post.ok1 (R := RQ X.K) p1 s1 ⟨a, vs, rfl, .inr q, r2⟩
  | ref n =>
    obtain ⟨a, ea, rfl⟩ := d_ref (show Rep X.K μ1 H1 (.ref n) x from r1)
    unfold seqOf at p1
    dsimp only at p1
    split at p1
    · rename_i ds e
      obtain ⟨b, vs, eb, q, r2⟩ := s1.list e
      rw [ea] at eb; cases eb
      exact Post.ok1 (R := RQ X.K) p1 s1 ⟨a, vs, rfl, .inl q, r2⟩
    · exact p1.elim
  | _ => exact p1.elim
def eNew (m : EM (List D)) : EM D := e1 m fun ds ah => .ok (.ref ah.length) (ah ++ [.lst ds])
theorem pd_new (h : PL X W e ml) : PD X W e (eNew ml) := by
  refine PE.weak h fun σ H Q ⟨μ, env, ah, he, hs, hp⟩ => ?_
  refine ⟨μ, env, ah, he, hs, hp.bind0 fun ds ah1 μ1 x H1 e1 s1 r1 p1 => ?_⟩
  obtain ⟨a, vs, rfl, h0, ha, hm, r⟩ := r1
  refine p1 (μ1 ++ [a]) (.ref a) H1 (e1.adopt h0 s1.mpos) (s1.adopt rfl hm ⟨vs, ha, Reps.mono (List.prefix_append _ _) TExt.refl ds vs r⟩) ?_
  show Rep _ _ _ _ _
  simp only [Rep]
  exact ⟨a, by rw [← s1.len]; simp, rfl⟩
theorem pl_lst (h : PAs X W es ml) : PL X W (.List es pos) (lLst ml) := by
  refine PE.weak (pe_lst h) fun σ H Q ⟨μ, env, ah, he, hs, hp⟩ => ?_
  refine ⟨μ, env, ah, he, hs, hp.bind0 fun ds ah1 μ1 vs H1 e1 s1 r1 p1 => ?_⟩
  have r : Reps X.K μ1 H1 ds vs := r1
  dsimp only at p1
  split at p1
  · rename_i hl
    refine ⟨line_le (by rw [← r.length]; exact hl), fun p hp => ?_⟩
    exact p1 μ1 _ _ (e1.trans (Ext.other hp)) (s1.other hp) ⟨p, vs, rfl, e1.there p hp, upd_same, s1.free hp, r.ext (Ext.other hp)⟩
  · exact p1.elim
def CallD (X : Cx) {γ : Type} (R : Rel γ V) (F : Value) (f : List D → AH → Res γ) : Prop := ∀ W, CallR X F (fun vs H Q => ∃ μ ah ds, Sim X.K μ H ah ∧ Reps X.K μ H ds vs ∧ Post X.K R W μ H Q (f ds ah))
theorem CallR.imp {F : Value} {r r' : List V → Hp → VK → Prop} (h : CallR X F r) (k : ∀ vs H Q, r' vs H Q → r vs H Q) : CallR X F r' := fun pins s σ H xs us Q I rv q => h pins s σ H xs us Q I rv (k xs H Q q)
theorem CallR.or {F : Value} {r r' : List V → Hp → VK → Prop} (h : CallR X F r) (h' : CallR X F r') : CallR X F (fun vs H Q => r vs H Q ∨ r' vs H Q) := fun pins s σ H xs us Q I rv q => q.elim (h pins s σ H xs us Q I rv) (h' pins s σ H xs us Q I rv)
theorem pe_callBσ {x : Str} {p : Pos} {id : String} {r : L2.St → List V → Hp → VK → Prop} {t : TA} (hc : ∀ σ, CallR X (.builtin id) (r σ)) (hg : Gl X x) (hm : X.mg x = none) (hv : bootBuiltins x = some (.builtin id)) (ha : PA X (e :: es) t) (hn : x ≠ "__name__" := by decide) (hdb : (x == ("__debug__" : Str)) = false := by decide)
    (he : starEach (e :: es) X.env = (false, eval e X.env) :: starEach es X.env := by rfl) (hpl : (backTo pos (starEach es X.env)).any (·.1) = false := by rfl) : PE X (.Call (.Name x p) (e :: es) [] pos) (fun σ H Q => tCB (r σ) t σ H Q) :=
  ⟨fun pins s σ H Q I h => (pe_callB (hc σ) hg hm hv ha hn hdb he hpl).run pins s σ H Q I h⟩
theorem pe_callTyσ {x : Str} {p : Pos} {T : String} {r : L2.St → List V → Hp → VK → Prop} {t : TA} (hc : ∀ σ, CallR X (.type T) (r σ)) (hg : Gl X x) (hm : X.mg x = none) (hv : bootBuiltins x = some (.type T)) (ha : PA X (e :: es) t) (hn : x ≠ "__name__" := by decide) (hdb : (x == ("__debug__" : Str)) = false := by decide)
    (he : starEach (e :: es) X.env = (false, eval e X.env) :: starEach es X.env := by rfl) (hpl : (backTo pos (starEach es X.env)).any (·.1) = false := by rfl) : PE X (.Call (.Name x p) (e :: es) [] pos) (fun σ H Q => tCB (r σ) t σ H Q) :=
  ⟨fun pins s σ H Q I h => (pe_callTy (hc σ) hg hm hv ha hn hdb he hpl).run pins s σ H Q I h⟩
theorem cb_step {γ : Type} {R : Rel γ V} {f : List D → AH → Res γ} {σ : L2.St} {H : Hp} {Q : VK} (h : tG X.K R W (e1 ml f) σ H Q) :
    tCB (fun vs H Q => ∃ μ ah ds, Sim X.K μ H ah ∧ Reps X.K μ H ds vs ∧ Post X.K R (fun c d H' => W c d σ H') μ H Q (f ds ah)) (tG X.K (RA X.K) W ml) σ H Q := by
  obtain ⟨μ, env, ah, he, hs, hp⟩ := h
  exact ⟨μ, env, ah, he, hs, hp.bind fun ds ah1 μ1 vs H1 e1 s1 r1 p1 => ⟨μ1, ah1, ds, s1, r1, p1⟩⟩
theorem pd_callB {x : Str} {p : Pos} {id : String} {f : List D → AH → Res D} (hc : CallD X (RD X.K) (.builtin id) f) (hg : Gl X x) (hm : X.mg x = none) (hv : bootBuiltins x = some (.builtin id)) (ha : PAs X W (e :: es) ml) (hn : x ≠ "__name__" := by decide) (hdb : (x == ("__debug__" : Str)) = false := by decide)
    (he : starEach (e :: es) X.env = (false, eval e X.env) :: starEach es X.env := by rfl) (hpl : (backTo pos (starEach es X.env)).any (·.1) = false := by rfl) : PD X W (.Call (.Name x p) (e :: es) [] pos) (e1 ml f) :=
  PE.weak (pe_callBσ (fun σ => hc _) hg hm hv ha hn hdb he hpl) fun _ _ _ h => cb_step h
theorem pd_callT {x : Str} {p : Pos} {T : String} {f : List D → AH → Res D} (hc : CallD X (RD X.K) (.type T) f) (hg : Gl X x) (hm : X.mg x = none) (hv : bootBuiltins x = some (.type T)) (ha : PAs X W (e :: es) ml) (hn : x ≠ "__name__" := by decide) (hdb : (x == ("__debug__" : Str)) = false := by decide)
    (he : starEach (e :: es) X.env = (false, eval e X.env) :: starEach es X.env := by rfl) (hpl : (backTo pos (starEach es X.env)).any (·.1) = false := by rfl) : PD X W (.Call (.Name x p) (e :: es) [] pos) (e1 ml f) :=
  PE.weak (pe_callTyσ (fun σ => hc _) hg hm hv ha hn hdb he hpl) fun _ _ _ h => cb_step h
def CallS (X : Cx) {γ : Type} (Rs : Rel (List D) V) (R : Rel γ V) (F : Value) (f : List D → AH → Res γ) : Prop := ∀ W, CallR X F (fun vs H Q => ∃ μ ah ds x H₀, vs = [x] ∧ Sim X.K μ H ah ∧ Rs.r H₀ μ H ds x ∧ Post X.K R W μ H Q (f ds ah))
theorem cs_step {γ : Type} {Rs : Rel (List D) V} {R : Rel γ V} {f : List D → AH → Res γ} {σ : L2.St} {H : Hp} {Q : VK} (h : tG X.K R W (e1 ml f) σ H Q) :
    tCB (fun vs H Q => ∃ μ ah ds x H₀, vs = [x] ∧ Sim X.K μ H ah ∧ Rs.r H₀ μ H ds x ∧ Post X.K R (fun c d H' => W c d σ H') μ H Q (f ds ah)) (tCons (tG X.K Rs W ml) tNil) σ H Q := by
  obtain ⟨μ, env, ah, he, hs, hp⟩ := h
  exact ⟨μ, env, ah, he, hs, hp.bind fun ds ah1 μ1 x H1 e1 s1 r1 p1 => ⟨μ1, ah1, ds, x, H, rfl, s1, r1, p1⟩⟩
theorem pg_callSB {γ : Type} {Rs : Rel (List D) V} {R : Rel γ V} {x : Str} {p : Pos} {id : String} {f : List D → AH → Res γ} (hc : CallS X Rs R (.builtin id) f) (hg : Gl X x) (hm : X.mg x = none) (hv : bootBuiltins x = some (.builtin id)) (ha : PE X e (tG X.K Rs W ml)) (hn : x ≠ "__name__" := by decide) (hdb : (x == ("__debug__" : Str)) = false := by decide)
    (he : starEach (e :: []) X.env = (false, eval e X.env) :: starEach [] X.env := by rfl) (hpl : (backTo pos (starEach [] X.env)).any (·.1) = false := by rfl) : PE X (.Call (.Name x p) [e] [] pos) (tG X.K R W (e1 ml f)) :=
  PE.weak (pe_callBσ (fun σ => hc _) hg hm hv (pa_cons ha pa_nil he) hn hdb he hpl) fun _ _ _ h => cs_step h
theorem pg_callST {γ : Type} {Rs : Rel (List D) V} {R : Rel γ V} {x : Str} {p : Pos} {T : String} {f : List D → AH → Res γ} (hc : CallS X Rs R (.type T) f) (hg : Gl X x) (hm : X.mg x = none) (hv : bootBuiltins x = some (.type T)) (ha : PE X e (tG X.K Rs W ml)) (hn : x ≠ "__name__" := by decide) (hdb : (x == ("__debug__" : Str)) = false := by decide)
    (he : starEach (e :: []) X.env = (false, eval e X.env) :: starEach [] X.env := by rfl) (hpl : (backTo pos (starEach [] X.env)).any (·.1) = false := by rfl) : PE X (.Call (.Name x p) [e] [] pos) (tG X.K R W (e1 ml f)) :=
  PE.weak (pe_callTyσ (fun σ => hc _) hg hm hv (pa_cons ha pa_nil he) hn hdb he hpl) fun _ _ _ h => cs_step h
def oLen (d : D) (ah : AH) : Res D := match d with
  | .str z => if z.length ≤ line then .ok (.int z.length) ah else .stuck
  | .tup ds => .ok (.int ds.length) ah
  | .ref n => match ah[n]? with
    | some (.lst ds) => .ok (.int ds.length) ah
    | some (.ro ds) => .ok (.int ds.length) ah
    | some (.dK kvs) => .ok (.int kvs.length) ah
    | _ => .stuck
  | _ => .stuck
def oLenA : List D → AH → Res D
  | [d], ah => oLen d ah
  | _, _ => .stuck
theorem reps1 {K : PySem.W.Frag} {μ : List Addr} {H : Hp} {d : D} {vs : List V} (h : Reps K μ H [d] vs) : ∃ v, vs = [v] ∧ Rep K μ H d v := by
  simp only [Reps] at h
  obtain ⟨w, ws, rfl, r, rfl⟩ := h
  exact ⟨w, rfl, r⟩
theorem reps2 {K : PySem.W.Frag} {μ : List Addr} {H : Hp} {d e : D} {vs : List V} (h : Reps K μ H [d, e] vs) : ∃ v w, vs = [v, w] ∧ Rep K μ H d v ∧ Rep K μ H e w := by
  simp only [Reps] at h
  obtain ⟨w, ws, rfl, r, u, us, rfl, r2, rfl⟩ := h
  exact ⟨w, u, rfl, r, r2⟩
theorem call_lenDict : CallR X (.builtin "len") (fun xs H Q => ∃ a kvs, xs = [.ref a] ∧ H a = some (.dK kvs) ∧ Q (.int kvs.length) H) := by
  intro pins s σ H xs us Q I rv h
  obtain ⟨a, kvs, rfl, e, q⟩ := h
  obtain ⟨u, rfl, r⟩ := vals1 rv
  cases r
  exact d_len I (.inl e) fun t s' I' => ⟨.int _, H, I', ⟨t, rfl⟩, q⟩
theorem cd_len : CallD X (RD X.K) (.builtin "len") oLenA := fun W => by
  refine CallR.imp (call_len.or call_lenDict) fun vs H Q ⟨μ, ah, ds, S, r, hp⟩ => ?_
  unfold oLenA at hp
  split at hp
  · rename_i ah' d
    obtain ⟨v, rfl, r1⟩ := reps1 r
    unfold oLen at hp
    cases d with
    | str z =>
      dsimp only at hp
      split at hp
      · rename_i hl
        rw [d_str r1]; exact .inl ⟨_, _, rfl, ⟨line_le hl, rfl⟩, Post.ok1 (R := RD X.K) hp S r_int⟩
      · exact hp.elim
    | tup xs =>
      obtain ⟨a, ws, rfl, q, r2⟩ := d_tup r1
      exact .inl ⟨_, _, rfl, .inr ⟨ws, q, r2.length⟩, Post.ok1 (R := RD X.K) hp S r_int⟩
    | ref n =>
      obtain ⟨a, ea, rfl⟩ := d_ref r1
      dsimp only at hp
      split at hp
      · rename_i xs e
        obtain ⟨b, ws, eb, q, r2⟩ := S.list (show listAt ah n = some xs by unfold listAt; rw [e])
        rw [ea] at eb; cases eb
        exact .inl ⟨_, _, rfl, .inl ⟨ws, q, r2.length⟩, Post.ok1 (R := RD X.K) hp S r_int⟩
      · rename_i xs e
        obtain ⟨b, ws, eb, q, r2⟩ := S.list (show listAt ah n = some xs by unfold listAt; rw [e])
        rw [ea] at eb; cases eb
        exact .inl ⟨_, _, rfl, .inl ⟨ws, q, r2.length⟩, Post.ok1 (R := RD X.K) hp S r_int⟩
      · rename_i kvs e
        obtain ⟨kws, e0, e1, _⟩ := S.ok n a _ ea e
        refine .inr ⟨a, kws, rfl, e0, Post.ok1 (R := RD X.K) hp S ?_⟩
        rw [show kws.length = kvs.length by simpa using (congrArg List.length e1).symm]
        exact r_int
      · exact hp.elim
    | _ => exact hp.elim
  · exact hp.elim
end
end HA
namespace HA
open PySem PySem.Spec PyProof.Rows L2
section
variable {X : Cx} {W : WX} {k : Nat} {e : Expr} {es : List Expr} {m : EM D} {ml : EM (List D)} {pos : Pos}
def tyName (d : D) (ah : AH) : Option String := match d with
  | .non => some "NoneType"
  | .bl _ => some "bool"
  | .int _ => some "int"
  | .str _ => some "str"
  | .tup _ => some "tuple"
  | .ref n => match ah[n]? with
    | some (.lst _) => some "list"
    | some (.dK _) => some "dict"
    | some (.dT _) => some "dict"
    | _ => none
  | .cst _ => none
  | .glo _ => none
  | .xv _ _ _ _ => none
def tyIs : String → String → Bool
  | "bool", "int" => true
  | a, b => a == b
def tyTable : List String := ["NoneType", "bool", "int", "str", "tuple", "list", "dict"]
theorem kit_table : ∀ a ∈ tyTable, ∀ b ∈ tyTable, kitB a b = some (tyIs a b) := by decide +kernel
def tyArgs : List D → Option (List String)
  | [] => some []
  | .cst (.ty T) :: r => (tyArgs r).map (T :: ·)
  | _ => none
def oIsi : List D → AH → Res D
  | [d, .cst (.ty T)], ah => match tyName d ah with
    | some a => if T ∈ tyTable then .ok (.bl (tyIs a T)) ah else .stuck
    | none => .stuck
  | [d, .tup ts], ah => match tyName d ah, tyArgs ts with
    | some a, some Ts => if (Ts.all fun T => decide (T ∈ tyTable)) = true then .ok (.bl (Ts.any (tyIs a))) ah else .stuck
    | _, _ => .stuck
  | _, _ => .stuck
theorem tyArgs_cls {K : PySem.W.Frag} {μ : List Addr} {H : Hp} : ∀ {ts : List D} {Ts : List String} {cs : List V}, tyArgs ts = some Ts → Reps K μ H ts cs → Paired ClsV cs (Ts.map Value.type)
  | [], Ts, cs, h, r => by
    simp only [tyArgs, Option.some.injEq] at h
    subst h
    simp only [Reps] at r
    subst r
    exact .nil
  | d :: ts, Ts, cs, h, r => by
    unfold tyArgs at h
    split at h
    · rename_i e; cases e
    · rename_i T r' e
      cases e
      rw [Option.map_eq_some_iff] at h
      obtain ⟨Ts', h1, rfl⟩ := h
      simp only [Reps] at r
      obtain ⟨w, ws, rfl, r1, r2⟩ := r
      have ew : w = .ty T := by simpa only [Rep] using r1
      subst ew
      exact .cons (.ty T) (tyArgs_cls h1 r2)
    · cases h
theorem kit_any {K : PySem.W.Frag} {a : String} (ha : a ∈ tyTable) : ∀ {Ts : List String}, (Ts.all fun T => decide (T ∈ tyTable)) = true → PySem.W.kitAny K (.type a) (Ts.map Value.type) = some (Ts.any (tyIs a))
  | [], _ => kitAny_nil
  | T :: Ts, h => by
    rw [List.all_cons, Bool.and_eq_true, decide_eq_true_eq] at h
    rw [List.map_cons, List.any_cons]
    refine kitAny_cons (kit_ty (kit_table a ha T h.1)) (fun e => ?_) fun e => by rw [e]; rfl
    rw [e, Bool.false_or]
    exact kit_any ha h.2
theorem call_isiQ : CallR X (.builtin "isinstance") (fun xs H Q => ∃ (x : V) (tp : Addr) (cs : List V) (t : Value) (us : List Value) (b : Bool), xs = [x, .ref tp] ∧ SqT X.K H tp cs ∧ Paired ClsV cs us ∧ TyX X.K H x t ∧ PySem.W.kitAny X.K t us = some b ∧ Q (.bl b) H) := by
  intro pins s σ H xs us Q I r h
  obtain ⟨x, tp, cs, t, ws, b, rfl, hT, k, ty, e, q⟩ := h
  obtain ⟨u1, u2, rfl, r1, r2⟩ := vals2 r
  cases (show u2 = Value.ref tp from r2)
  obtain ⟨P, Z, p, hx⟩ := kit_of I r1 ty
  obtain ⟨its, rv, ⟨⟨cls, dd, data, sl⟩, h1, h2, n, h3⟩, _⟩ := I.tuple hT
  have e3 := ClsV.all k rv
  subst e3
  simp only at h2 h3
  subst h2 h3
  exact PySem.W.kia_tup Z I.kIn p h1 e hx fun tk => ⟨.bl b, H, I.tok tk, rfl, q⟩
theorem call_isiU : CallR X (.builtin "isinstance") (fun xs H Q => rIsi X.K xs H Q ∨ ∃ (x : V) (tp : Addr) (cs : List V) (t : Value) (us : List Value) (b : Bool), xs = [x, .ref tp] ∧ SqT X.K H tp cs ∧ Paired ClsV cs us ∧ TyX X.K H x t ∧ PySem.W.kitAny X.K t us = some b ∧ Q (.bl b) H) := by
  intro pins s σ H xs us Q I r h
  rcases h with h | h
  · exact call_isi _ _ _ _ _ _ _ I r h
  · exact call_isiQ _ _ _ _ _ _ _ I r h
theorem tyName_v {K : PySem.W.Frag} {μ : List Addr} {H : Hp} {d : D} {v : V} {ah : AH} {a : String} (S : Sim K μ H ah) (r : Rep K μ H d v) (e : tyName d ah = some a) : TyX K H v (.type a) ∧ a ∈ tyTable := by
  cases d with
  | non => cases e; rw [d_non r]; exact ⟨.base .non, by decide⟩
  | bl b => cases e; rw [d_bl r]; exact ⟨.base (.bl b), by decide⟩
  | int i => cases e; rw [d_int r]; exact ⟨.base (.int i), by decide⟩
  | str i => cases e; rw [d_str r]; exact ⟨.base (.str i), by decide⟩
  | tup ds =>
    cases e
    obtain ⟨a, vs, rfl, q, _⟩ := d_tup r
    refine ⟨?_, by decide⟩
    rcases q with (q | ⟨o, q⟩) | ⟨o, its, n, q1, q2, _⟩
    · exact .base (.tup q)
    · exact .fTuple q
    · exact .kTuple q1 q2
  | ref n =>
    obtain ⟨b, eb, rfl⟩ := d_ref r
    unfold tyName at e
    dsimp only at e
    split at e
    · rename_i ds q
      cases e
      obtain ⟨vs, e0, _⟩ := S.ok n b _ eb q
      exact ⟨.base (.lst e0), by decide⟩
    · rename_i ds q
      cases e
      obtain ⟨vs, e0, _⟩ := S.ok n b _ eb q
      exact ⟨.base (.dK e0), by decide⟩
    · rename_i ds q
      cases e
      obtain ⟨vs, e0, _⟩ := S.ok n b _ eb q
      exact ⟨.base (.dT e0), by decide⟩
    · cases e
  | cst w => cases e
  | glo w => cases e
  | xv a d ks ds => cases e
theorem cd_isi : CallD X (RD X.K) (.builtin "isinstance") oIsi := fun W => by
  refine CallR.imp call_isiU fun vs H Q ⟨μ, ah, ds, S, r, hp⟩ => ?_
  unfold oIsi at hp
  split at hp
  · rename_i ah' d T
    obtain ⟨v, w, rfl, r1, r2⟩ := reps2 r
    have ew : w = .ty T := by simpa only [Rep] using r2
    subst ew
    split at hp
    · rename_i a e
      split at hp
      · rename_i hT
        obtain ⟨h1, h2⟩ := tyName_v S r1 e
        exact .inl ⟨v, _, _, _, _, rfl, .ty T, h1, kit_ty (kit_table a h2 T hT), Post.ok1 (R := RD X.K) hp S r_bl⟩
      · exact hp.elim
    · exact hp.elim
  · rename_i ah' d ts
    obtain ⟨v, w, rfl, r1, r2⟩ := reps2 r
    obtain ⟨tp, cs, rfl, q, rr⟩ := d_tup r2
    split at hp
    · rename_i a Ts e eT
      split at hp
      · rename_i hT
        obtain ⟨h1, h2⟩ := tyName_v S r1 e
        exact .inr ⟨v, tp, cs, _, _, _, rfl, q, tyArgs_cls eT rr, h1, kit_any h2 hT, Post.ok1 (R := RD X.K) hp S r_bl⟩
      · exact hp.elim
    · exact hp.elim
  · exact hp.elim
theorem pd_ty {x : Str} {T : String} {pos : Pos} (hg : Gl X x) (hm : X.mg x = none) (hv : bootBuiltins x = some (.type T)) (hn : x ≠ "__name__" := by decide) (hd : (x == ("__debug__" : Str)) = false := by decide) : PD X W (.Name x pos) (eC (.cst (.ty T))) :=
  pd_c (pe_bltn (v := .ty T) hg hm hv rfl hn hd) fun _ _ => by simp only [Rep]
def oRepr : List D → AH → Res D
  | [d], ah => match pd ah d with
    | some p => if p.showable = true ∧ p.shown.length ≤ line ∧ p.depth ≤ 63 then .ok (.str p.shown) ah else .stuck
    | none => .stuck
  | _, _ => .stuck
theorem cd_repr (hr : Rm k X.A) : CallD X (RD X.K) (.builtin "repr") oRepr := fun W => by
  intro pins s σ H xs us Q I rv h
  obtain ⟨μ, ah, ds, S, r, hp⟩ := h
  unfold oRepr at hp
  split at hp
  · rename_i ah' d
    obtain ⟨v, rfl, r1⟩ := reps1 r
    obtain ⟨u, rfl, ru⟩ := vals1 rv
    split at hp
    · rename_i p e
      split at hp
      · rename_i hc
        have q := Inv.sr I S deep d v u p e r1 ru
        refine SR.repr q hc.1 (line_le hc.2.1) hr.gd (by have := hr.u65; have := hc.2.2; omega) fun h' t tk kk => ?_
        exact ⟨.str p.shown, H, I.kept kk, ⟨t, rfl⟩, Post.ok1 (R := RD X.K) hp S r_str⟩
      · exact hp.elim
    · exact hp.elim
  · exact hp.elim
def oStr : List D → AH → Res D
  | [.int i], ah => if i.natAbs.log2 < 1920 then .ok (.str (toString i)) ah else .stuck
  | [.bl b], ah => .ok (.str (if b then "True" else "False")) ah
  | [.str x], ah => .ok (.str x) ah
  | [.non], ah => .ok (.str "None") ah
  | _, _ => .stuck
theorem call_str_bn : CallR X (.type "str") (fun xs H Q => (∃ b : Bool, xs = [.bl b] ∧ Q (.str (if b then "True" else "False")) H) ∨ (xs = [.non] ∧ Q (.str "None") H)) := by
  intro pins s σ H xs us Q I r h
  rcases h with ⟨b, rfl, q⟩ | ⟨rfl, q⟩
  · obtain ⟨u, rfl, ru⟩ := vals1 r
    cases ru
    exact PySem.P.str_of_bool ⟨.str _, H, I.tok _, ⟨_, rfl⟩, q⟩
  · obtain ⟨u, rfl, ru⟩ := vals1 r
    cases ru
    exact PySem.P.str_of_none ⟨.str _, H, I.tok _, ⟨_, rfl⟩, q⟩
theorem cd_str : CallD X (RD X.K) (.type "str") oStr := fun W => by
  refine CallR.imp ((call_str_int.or SkE.call_str_str).or call_str_bn) fun vs H Q ⟨μ, ah, ds, S, r, hp⟩ => ?_
  unfold oStr at hp
  split at hp
  · obtain ⟨v, rfl, r1⟩ := reps1 r
    split at hp
    · rename_i hl
      rw [d_int r1]; exact .inl (.inl ⟨_, rfl, hl, Post.ok1 (R := RD X.K) hp S r_str⟩)
    · exact hp.elim
  · obtain ⟨v, rfl, r1⟩ := reps1 r
    rw [d_bl r1]; exact .inr (.inl ⟨_, rfl, Post.ok1 (R := RD X.K) hp S r_str⟩)
  · obtain ⟨v, rfl, r1⟩ := reps1 r
    rw [d_str r1]; exact .inl (.inr ⟨_, rfl, Post.ok1 (R := RD X.K) hp S r_str⟩)
  · obtain ⟨v, rfl, r1⟩ := reps1 r
    rw [d_non r1]; exact .inr (.inr ⟨rfl, Post.ok1 (R := RD X.K) hp S r_str⟩)
  · exact hp.elim
def oInt : List D → AH → Res D
  | [.int i], ah => .ok (.int i) ah
  | [.bl b], ah => .ok (.int (if b then 1 else 0)) ah
  | _, _ => .stuck
theorem cd_int : CallD X (RD X.K) (.type "int") oInt := fun W => by
  refine CallR.imp call_int1 fun vs H Q ⟨μ, ah, ds, S, r, hp⟩ => ?_
  unfold oInt at hp
  split at hp
  · obtain ⟨v, rfl, r1⟩ := reps1 r
    rw [d_int r1]; exact .inl ⟨_, rfl, Post.ok1 (R := RD X.K) hp S r_int⟩
  · obtain ⟨v, rfl, r1⟩ := reps1 r
    rw [d_bl r1]; exact .inr ⟨_, rfl, Post.ok1 (R := RD X.K) hp S r_int⟩
  · exact hp.elim
def oMin : List D → AH → Res D
  | [.int i, .int j], ah => .ok (.int (if j < i then j else i)) ah
  | _, _ => .stuck
def oMax : List D → AH → Res D
  | [.int i, .int j], ah => .ok (.int (if j > i then j else i)) ah
  | _, _ => .stuck
def dInt : D → Option Int
  | .int i => some i
  | _ => none
def dBool : D → Option Bool
  | .bl b => some b
  | _ => none
def dStr : D → Option Str
  | .str b => some b
  | _ => none
theorem ints_of : ∀ {ds : List D} {ns : List Int}, optAll dInt ds = some ns → ds = ns.map D.int
  | [], _, h => by cases h; rfl
  | d :: ds, _, h => by
    obtain ⟨b, cs, rfl, h1, h2⟩ := optAll_cons h
    rw [ints_of h2]
    cases d <;> simp only [dInt, Option.some.injEq, reduceCtorEq] at h1
    subst h1; rfl
def sSum (ds : List D) (ah : AH) : Res D := match optAll dInt ds with
  | some ns => .ok (.int ns.sum) ah
  | none => .stuck
def sAll (ds : List D) (ah : AH) : Res D := match optAll dBool ds with
  | some bs => .ok (.bl (bs.all id)) ah
  | none => .stuck
def sAny (ds : List D) (ah : AH) : Res D := match optAll dBool ds with
  | some bs => .ok (.bl (bs.any id)) ah
  | none => .stuck
theorem cs_sum (hc : X.calm = true) : CallS X (RM X.K) (RD X.K) (.builtin "sum") sSum := fun W => by
  refine CallR.imp (cr_sum hc) fun vs H Q ⟨μ, ah, ds, x, H₀, ev, S, ⟨a, ws, ex, q, r⟩, hp⟩ => ?_
  subst ev ex
  unfold sSum at hp
  split at hp
  · rename_i ns e
    rw [ints_of e] at r
    rw [r.ints] at q
    exact ⟨a, ns, rfl, q, Post.ok1 (R := RD X.K) hp S r_int⟩
  · exact hp.elim
def sTup (ds : List D) (ah : AH) : Res D := .ok (.tup ds) ah
theorem cs_tuple : CallS X (RQ X.K) (RD X.K) (.type "tuple") sTup := fun W => by
  refine CallR.imp call_tuple_of fun vs H Q ⟨μ, ah, ds, x, H₀, ev, S, ⟨a, ws, ex, q, r⟩, hp⟩ => ?_
  subst ev ex
  refine ⟨a, ws, rfl, ?_⟩
  rcases q with q | q
  · exact .inl ⟨q, fun l hl => hp.newT S r hl⟩
  · exact .inr ⟨q, Post.ok1 (R := RD X.K) hp S (r_tup q r)⟩
def sList (ds : List D) (ah : AH) : Res (List D) := .ok ds ah
theorem cs_list : CallS X (RQ X.K) (RL X.K) (.type "list") sList := fun W => by
  refine CallR.imp call_list_of fun vs H Q ⟨μ, ah, ds, x, H₀, ev, S, ⟨a, ws, ex, q, r⟩, hp⟩ => ?_
  subst ev ex
  exact ⟨a, ws, rfl, q, fun l hl => hp.newL S r hl⟩
def ixD {α : Type} (xs : List α) (i : Int) : Option α := (ixN xs.length i).bind fun j => xs[j]?
def valD {κ : Type} [DecidableEq κ] (kvs : List (κ × D)) (k : κ) : Option D := (kvs.find? fun kv => decide (kv.1 = k)).map (·.2)
def oIx : D → D → AH → Res D
  | .tup ds, .int i, ah => match ixD ds i with
    | some d => .ok d ah
    | none => .stuck
  | .str z, .int i, ah => if z.length ≤ line then match ixD z.cps.toList i with
    | some c => .ok (.str ⟨#[c]⟩) ah
    | none => .stuck else .stuck
  | .ref n, .int i, ah => match ah[n]? with
    | some (.lst ds) => match ixD ds i with
      | some d => .ok d ah
      | none => .stuck
    | some (.ro ds) => match ixD ds i with
      | some d => .ok d ah
      | none => .stuck
    | _ => .stuck
  | _, _, _ => .stuck
theorem ixD_get {K : PySem.W.Frag} {μ : List Addr} {H : Hp} {ds : List D} {vs : List V} {i : Int} {d : D} (r : Reps K μ H ds vs) (e : ixD ds i = some d) : ∃ v, atI vs i = some v ∧ Rep K μ H d v := by
  unfold ixD at e
  obtain ⟨j, e1, e2⟩ := Option.bind_eq_some_iff.mp e
  obtain ⟨v, e3, r2⟩ := r.get e2
  exact ⟨v, by unfold atI; rw [← r.length, e1]; exact e3, r2⟩
theorem pe_ixσ {r : L2.St → R2} {a b : Expr} {ta tb : TE} (hr : ∀ σ, IxR X (r σ)) (ha : PE X a ta) (hb : PE X b tb) (hs : PlainIx b) : PE X (.Subscript a b pos) (fun σ H Q => tOp (r σ) ta tb σ H Q) :=
  ⟨fun pins s σ H Q I h => (pe_ix (hr σ) ha hb hs).run pins s σ H Q I h⟩
theorem IxR.imp {r r' : R2} (h : IxR X r) (k : ∀ x y H Q, r' x y H Q → r x y H Q) : IxR X r' := fun ve se pins s σ H x y v u Q I rx ry q => h ve se pins s σ H x y v u Q I rx ry (k x y H Q q)
theorem ix_d (Wx : Value → Option Addr → Hp → Prop) : IxR X (rO (R := RD X.K) X.K Wx oIx) := by
  refine IxR.imp ix_seq fun x y H Q ⟨μ, ah, dx, dy, S, rx, ry, hp⟩ => ?_
  unfold oIx at hp
  split at hp
  · split at hp
    · rename_i d e
      obtain ⟨a, vs, rfl, q, r2⟩ := d_tup rx
      obtain ⟨v, ev, rv⟩ := ixD_get r2 e
      rw [d_int ry]
      exact .inr (.inl ⟨a, vs, _, v, rfl, rfl, q, ev, Post.ok1 (R := RD X.K) hp S rv⟩)
    · exact hp.elim
  · split at hp
    · rename_i hl
      split at hp
      · rename_i c e
        rw [d_str rx, d_int ry]
        exact .inr (.inr ⟨_, _, c, rfl, rfl, line_le hl, e, Post.ok1 (R := RD X.K) hp S r_str⟩)
      · exact hp.elim
    · exact hp.elim
  · rename_i ah' n i
    obtain ⟨a, ea, rfl⟩ := d_ref rx
    split at hp
    · rename_i ds q
      split at hp
      · rename_i d e
        obtain ⟨b, vs, eb, q2, r2⟩ := S.list (show listAt _ n = some ds by unfold listAt; rw [q])
        rw [ea] at eb; cases eb
        obtain ⟨v, ev, rv⟩ := ixD_get r2 e
        rw [d_int ry]
        exact .inl ⟨a, vs, _, v, rfl, rfl, q2, ev, Post.ok1 (R := RD X.K) hp S rv⟩
      · exact hp.elim
    · rename_i ds q
      split at hp
      · rename_i d e
        obtain ⟨b, vs, eb, q2, r2⟩ := S.list (show listAt _ n = some ds by unfold listAt; rw [q])
        rw [ea] at eb; cases eb
        obtain ⟨v, ev, rv⟩ := ixD_get r2 e
        rw [d_int ry]
        exact .inl ⟨a, vs, _, v, rfl, rfl, q2, ev, Post.ok1 (R := RD X.K) hp S rv⟩
      · exact hp.elim
    · exact hp.elim
  · exact hp.elim
theorem pd_ix {a b : Expr} {ma mb : EM D} (ha : PD X W a ma) (hb : PD X W b mb) (hs : PlainIx b := by exact fun _ _ => rfl) : PD X W (.Subscript a b pos) (e2 ma mb oIx) :=
  PE.weak (pe_ixσ (fun σ => ix_d (fun c d H' => W c d σ H')) ha hb hs) fun _ _ _ h => op2 h
def lIx (ds : List D) (d : D) (ah : AH) : Res D := match d with
  | .int i => match ixD ds i with
    | some x => .ok x ah
    | none => .stuck
  | _ => .stuck
theorem pd_ixL {a b : Expr} {ma : EM (List D)} {mb : EM D} (ha : PL X W a ma) (hb : PD X W b mb) (hs : PlainIx b := by exact fun _ _ => rfl) : PD X W (.Subscript a b pos) (e2 ma mb lIx) := by
  refine PE.weak (pe_ix ix_list ha hb hs) fun σ H Q ⟨μ, env, ah, he, hs, hp⟩ => ?_
  refine ⟨μ, env, ah, he, hs, hp.bind fun ds ah1 μ1 x H1 e1 s1 r1 p1 => ?_⟩
  refine tG_next he e1 s1 (p1.bind fun dy ah2 μ2 y H2 e2 s2 r2 p2 => ?_)
  obtain ⟨l, vs, rfl, _, hl, hm, r⟩ := r1
  cases dy with
  | int i =>
    unfold lIx at p2
    dsimp only at p2
    split at p2
    · rename_i d e
      obtain ⟨v, ev, rv⟩ := ixD_get (r.ext e2) e
      rw [d_int (show Rep X.K μ2 H2 (.int i) y from r2)]
      exact ⟨l, vs, i, v, rfl, rfl, SqL.of (e2.keep l _ hm hl), ev, Post.ok1 (R := RD X.K) p2 s2 rv⟩
    · exact p2.elim
  | _ => exact p2.elim
def cut {α : Type} (xs : List α) (lo hi : Option Int) : List α := (xs.drop (HT.sIx xs.length 0 lo)).take (HT.sIx xs.length xs.length hi - HT.sIx xs.length 0 lo)
def oPart (m : Option (EM D)) : EM (Option Int) := match m with
  | none => fun _ ah => .ok none ah
  | some m => e1 m fun d ah => match d with
    | .int i => .ok (some i) ah
    | _ => .stuck
def RP : Rel (Option Int) (Option Int) := ⟨fun _ _ _ a b => a = b, fun _ h => h⟩
theorem PO.weak {p : Option Expr} {t t' : TO} (h : PO X p t) (k : ∀ σ H Q, t' σ H Q → t σ H Q) : PO X p t' := ⟨fun pins s σ H Q I q => h.run pins s σ H Q I (k σ H Q q)⟩
def PPart (X : Cx) (W : WX) (p : Option Expr) (m : EM (Option Int)) : Prop := PO X p (tG X.K RP W m)
theorem pp_none : PPart X W none (oPart none) := PO.weak po_none fun σ H Q ⟨μ, env, ah, he, hs, hp⟩ => Post.ok1 (R := RP) hp hs rfl
theorem pp_some (h : PD X W e m) : PPart X W (some e) (oPart (some m)) := by
  refine PO.weak (po_some h) fun σ H Q ⟨μ, env, ah, he, hs, hp⟩ => ?_
  refine ⟨μ, env, ah, he, hs, hp.bind fun d ah1 μ1 x H1 e1 s1 r1 p1 => ?_⟩
  cases d with
  | int i => exact ⟨i, d_int (show Rep X.K μ1 H1 (.int i) x from r1), Post.ok1 (R := RP) p1 s1 rfl⟩
  | _ => exact p1.elim
def e3 {α β γ δ : Type} (ma : EM α) (mb : EM β) (mc : EM γ) (f : α → β → γ → AH → Res δ) : EM δ := fun env ah => (ma env ah).bind fun x ah1 => (mb env ah1).bind fun y ah2 => (mc env ah2).bind fun z ah3 => f x y z ah3
def oCut (d : D) (lo hi : Option Int) (ah : AH) : Res D := match d with
  | .tup ds => .ok (.tup (cut ds lo hi)) ah
  | .str z => if z.length ≤ line then .ok (.str (cutS z lo hi)) ah else .stuck
  | _ => .stuck
theorem Reps.cut {K : PySem.W.Frag} {μ : List Addr} {H : Hp} {ds : List D} {vs : List V} (r : Reps K μ H ds vs) (lo hi : Option Int) : Reps K μ H (HA.cut ds lo hi) (cutV vs lo hi) := by
  unfold HA.cut cutV
  rw [r.length]
  exact (r.drop _).take _
theorem cut_whole {α : Type} {ds : List α} {lo hi : Option Int} (h : HT.sIx ds.length 0 lo = 0 ∧ HT.sIx ds.length ds.length hi = ds.length) : cut ds lo hi = ds := by
  unfold cut
  rw [h.1, h.2]; simp
variable {lo hi : Option Expr} {mlo mhi : EM (Option Int)} {p2 : Pos}
theorem pd_cut (he : PD X W e m) (hl : PPart X W lo mlo) (hh : PPart X W hi mhi) : PD X W (.Subscript e (.Slice lo hi none p2) pos) (e3 m mlo mhi oCut) := by
  refine PE.weak (pe_slice (sl_tupA.or sl_str) he hl hh) fun σ H Q ⟨μ, env, ah, he, hs, hp⟩ => ?_
  refine ⟨μ, env, ah, he, hs, hp.bind fun d ah1 μ1 x H1 e1 s1 r1 p1 => ?_⟩
  refine tG_next he e1 s1 (p1.bind fun lo ah2 μ2 lo' H2 e2 s2 r2 p2 => ?_)
  refine tG_next he (e1.trans e2) s2 (p2.bind fun hi ah3 μ3 hi' H3 e3 s3 r3 p3 => ?_)
  cases (show lo = lo' from r2)
  cases (show hi = hi' from r3)
  cases d with
  | tup ds =>
    obtain ⟨a, vs, rfl, q, r⟩ := d_tup (Rep.ext (Rep.ext (show Rep X.K μ1 H1 (.tup ds) x from r1) e2) e3)
    refine .inl ⟨a, vs, rfl, q, fun hw => ?_, fun _ p np => ?_⟩
    · refine Post.ok1 (R := RD X.K) p3 s3 (r_tup q ?_)
      rw [cut_whole (by rw [r.length]; exact hw)]; exact r
    · exact Post.newT p3 s3 (r.cut lo hi) np
  | str z =>
    rw [d_str (Rep.ext (Rep.ext (show Rep X.K μ1 H1 (.str z) x from r1) e2) e3)]
    unfold oCut at p3
    dsimp only at p3
    split at p3
    · rename_i hl
      exact .inr ⟨z, rfl, line_le hl, Post.ok1 (R := RD X.K) p3 s3 r_str⟩
    · exact p3.elim
  | _ => exact p3.elim
def lCut (ds : List D) (lo hi : Option Int) (ah : AH) : Res (List D) := .ok (cut ds lo hi) ah
theorem pl_cut (he : PD X W e m) (hl : PPart X W lo mlo) (hh : PPart X W hi mhi) : PL X W (.Subscript e (.Slice lo hi none p2) pos) (e3 m mlo mhi fun d lo hi ah => (listOf d ah).bind fun ds ah => lCut ds lo hi ah) := by
  refine PE.weak (pe_slice sl_list he hl hh) fun σ H Q ⟨μ, env, ah, he, hs, hp⟩ => ?_
  refine ⟨μ, env, ah, he, hs, hp.bind0 fun d ah1 μ1 x H1 e1 s1 r1 p1 => ?_⟩
  refine ⟨μ1, env, ah1, he.ext e1, s1, ?_⟩
  refine (Post.ext e1 p1).bind fun lo ah2 μ2 lo' H2 e2 s2 r2 p2 => ?_
  refine tG_next he (e1.trans e2) s2 (p2.bind fun hi ah3 μ3 hi' H3 e3 s3 r3 p3 => ?_)
  cases (show lo = lo' from r2)
  cases (show hi = hi' from r3)
  cases d with
  | ref n =>
    obtain ⟨a, ea, rfl⟩ := d_ref (Rep.ext (Rep.ext (show Rep X.K μ1 H1 (.ref n) x from r1) e2) e3)
    unfold listOf at p3
    dsimp only at p3
    split at p3
    · rename_i ds e
      obtain ⟨b, vs, eb, q, r⟩ := s3.list e
      rw [ea] at eb; cases eb
      exact ⟨a, vs, rfl, q, fun p np => Post.newL p3 s3 (r.cut lo hi) np⟩
    · exact p3.elim
  | _ => exact p3.elim
end
end HA
namespace HA
open PySem PySem.Spec PyProof.Rows L2
mutual
def D.eqb : D → D → Bool
  | .non, .non => true
  | .bl a, .bl b => decide (a = b)
  | .int a, .int b => decide (a = b)
  | .str a, .str b => decide (a = b)
  | .tup a, .tup b => D.eqbs a b
  | .ref a, .ref b => decide (a = b)
  | .cst a, .cst b => decide (a = b)
  | .glo a, .glo b => decide (a = b)
  | .xv a d ks ds, .xv b e ls es => decide (a = b) && (decide (d = e) && (decide (ks = ls) && D.eqbs ds es))
  | _, _ => false
def D.eqbs : List D → List D → Bool
  | [], [] => true
  | a :: as, b :: bs => D.eqb a b && D.eqbs as bs
  | _, _ => false
end
mutual
theorem D.eqb_iff : ∀ (a b : D), D.eqb a b = true ↔ a = b
  | .non, b => by cases b <;> simp [D.eqb]
  | .bl x, b => by cases b <;> simp [D.eqb]
  | .int x, b => by cases b <;> simp [D.eqb]
  | .str x, b => by cases b <;> simp [D.eqb]
  | .tup x, b => by
    cases b with
    | tup y => simp only [D.eqb, D.tup.injEq]; exact D.eqbs_iff x y
    | _ => simp [D.eqb]
  | .ref x, b => by cases b <;> simp [D.eqb]
  | .cst x, b => by cases b <;> simp [D.eqb]
  | .glo x, b => by cases b <;> simp [D.eqb]
  | .xv a d ks ds, b => by
    cases b with
    | xv b e ls es => simp only [D.eqb, D.xv.injEq, Bool.and_eq_true, decide_eq_true_eq]; rw [D.eqbs_iff ds es]
    | _ => simp [D.eqb]
theorem D.eqbs_iff : ∀ (a b : List D), D.eqbs a b = true ↔ a = b
  | [], b => by cases b <;> simp [D.eqbs]
  | x :: xs, b => by
    cases b with
    | nil => simp [D.eqbs]
    | cons y ys => simp only [D.eqbs, Bool.and_eq_true, List.cons.injEq]; rw [D.eqb_iff x y, D.eqbs_iff xs ys]
end
instance : DecidableEq D := fun a b => decidable_of_iff _ (D.eqb_iff a b)
inductive SRes where
  | nx (env : Env) (h : AH)
  | rt (d : D) (h : AH)
  | bk (env : Env) (h : AH)
  | ct (env : Env) (h : AH)
  | exn (c : Str) (fs : Option (List (Str × D))) (env : Env) (h : AH)
  | stuck
abbrev SM := Env → AH → SRes
def PostS (K : PySem.W.Frag) (W : WX) (D : Ends) (μ : List Addr) (H : Hp) : SRes → Prop
  | .nx env' ah' => ∀ μ' σ' H', Ext K μ H μ' H' → Sim K μ' H' ah' → EnvRel K μ' H' env' σ' → D.nx σ' H'
  | .rt d ah' => ∀ μ' v H', Ext K μ H μ' H' → Sim K μ' H' ah' → Rep K μ' H' d v → D.rt v H'
  | .bk env' ah' => ∀ μ' σ' H', Ext K μ H μ' H' → Sim K μ' H' ah' → EnvRel K μ' H' env' σ' → D.bk σ' H'
  | .ct env' ah' => ∀ μ' σ' H', Ext K μ H μ' H' → Sim K μ' H' ah' → EnvRel K μ' H' env' σ' → D.ct σ' H'
  | .exn c fs env' ah' => ∀ μ' σ' H' od, Ext K μ H μ' H' → Sim K μ' H' ah' → EnvRel K μ' H' env' σ' → ExnOk K μ' H' fs od → W (.ref (gA K c)) od σ' H'
  | .stuck => False
section
variable {K : PySem.W.Frag} {W : WX} {D : Ends} {μ μ1 : List Addr} {H H1 : Hp}
theorem PostS.ext {r : SRes} (e : Ext K μ H μ1 H1) (h : PostS K W D μ H r) : PostS K W D μ1 H1 r := by
  cases r with
  | nx env ah => exact fun μ' σ' H' e' => h μ' σ' H' (e.trans e')
  | rt d ah => exact fun μ' σ' H' e' => h μ' σ' H' (e.trans e')
  | bk env ah => exact fun μ' σ' H' e' => h μ' σ' H' (e.trans e')
  | ct env ah => exact fun μ' σ' H' e' => h μ' σ' H' (e.trans e')
  | exn c fs env ah => exact fun μ' σ' H' od e' => h μ' σ' H' od (e.trans e')
  | stuck => exact h
end
def Res.thenS {α : Type} (r : Res α) (env : Env) (f : α → AH → SRes) : SRes := match r with
  | .ok a h => f a h
  | .exn c fs h => .exn c fs env h
  | .stuck => .stuck
@[simp] theorem Res.thenS_ok {α : Type} (a : α) (h : AH) (env : Env) (f : α → AH → SRes) : (Res.ok a h).thenS env f = f a h := rfl
@[simp] theorem Res.thenS_exn {α : Type} (c : Str) (fs : Option (List (Str × D))) (h : AH) (env : Env) (f : α → AH → SRes) : (Res.exn c fs h : Res α).thenS env f = .exn c fs env h := rfl
@[simp] theorem Res.thenS_stuck {α : Type} (env : Env) (f : α → AH → SRes) : (Res.stuck : Res α).thenS env f = .stuck := rfl
theorem PostS.bind {K : PySem.W.Frag} {W : WX} {D : Ends} {μ : List Addr} {H : Hp} {β γ : Type} {R : Rel β γ} {P : γ → Hp → Prop} {r : Res β} {env : Env} {σ : L2.St} {f : β → AH → SRes} (h : PostS K W D μ H (r.thenS env f)) (he : EnvRel K μ H env σ)
    (k : ∀ d ah1 μ1 x H1, Ext K μ H μ1 H1 → Sim K μ1 H1 ah1 → R.r H μ1 H1 d x → PostS K W D μ1 H1 (f d ah1) → P x H1) : Post K R (fun c d H' => W c d σ H') μ H P r := by
  cases r with
  | ok d ah => exact fun μ' x H' e' s' r' => k d ah μ' x H' e' s' r' (PostS.ext e' h)
  | exn c fs ah => exact fun μ' H' od e' s' x => h μ' σ H' od e' s' (he.ext e') x
  | stuck => exact h
def tS (K : PySem.W.Frag) (W : WX) (m : SM) : TS := fun D σ H => ∃ (μ : List Addr) (env : Env) (ah : AH), EnvRel K μ H env σ ∧ Sim K μ H ah ∧ PostS K W D μ H (m env ah)
theorem PS.weak {X : Cx} {st : Stmt} {t t' : TS} (h : PS X st t) (k : ∀ D σ H, t' D σ H → t D σ H) : PS X st t' := ⟨fun pins s σ H D I q => h.run pins s σ H D I (k D σ H q)⟩
theorem PSs.weak {X : Cx} {st : List Stmt} {t t' : TS} (h : PSs X st t) (k : ∀ D σ H, t' D σ H → t D σ H) : PSs X st t' := ⟨fun pins s σ H D I q => h.run pins s σ H D I (k D σ H q)⟩
def PZ (X : Cx) (W : WX) (st : Stmt) (m : SM) : Prop := PS X st (tS X.K W m)
def PZs (X : Cx) (W : WX) (st : List Stmt) (m : SM) : Prop := PSs X st (tS X.K W m)
def sSkip : SM := fun env ah => .nx env ah
def sSeq (a b : SM) : SM := fun env ah => match a env ah with
  | .nx env1 ah1 => b env1 ah1
  | r => r
def sRet (m : EM D) : SM := fun env ah => (m env ah).thenS env fun d ah1 => .rt d ah1
def sRetN : SM := fun _ ah => .rt .non ah
def sExpr (m : EM D) : SM := fun env ah => (m env ah).thenS env fun _ ah1 => .nx env ah1
def sIf (c : EM Bool) (a b : SM) : SM := fun env ah => (c env ah).thenS env fun x ah1 => if x = true then a env ah1 else b env ah1
section
variable {X : Cx} {W : WX} {k : Nat} {e : Expr} {es : List Expr} {m : EM D} {ml : EM (List D)} {pos : Pos} {st : Stmt} {rest : List Stmt} {ma mb : SM}
theorem post_next {K : PySem.W.Frag} {W : WX} {D : Ends} {μ : List Addr} {H : Hp} {env : Env} {ah : AH} {σ : L2.St} (h : PostS K W D μ H (.nx env ah)) (S : Sim K μ H ah) (E : EnvRel K μ H env σ) : D.nx σ H := h μ σ H Ext.refl S E
theorem pzs_nil : PZs X W [] sSkip := PSs.weak pss_nil fun D σ H ⟨μ, env, ah, he, hs, hp⟩ => post_next hp hs he
theorem pzs_cons (h1 : PZ X W st ma) (h2 : PZs X W rest mb) : PZs X W (st :: rest) (sSeq ma mb) := by
  refine PSs.weak (pss_cons h1 h2) fun D σ H ⟨μ, env, ah, he, hs, hp⟩ => ?_
  refine ⟨μ, env, ah, he, hs, ?_⟩
  unfold sSeq at hp
  cases q : ma env ah with
  | nx env1 ah1 =>
    rw [q] at hp
    exact fun μ' σ' H' e' s' r' => ⟨μ', env1, ah1, r', s', PostS.ext e' hp⟩
  | rt d ah1 => rw [q] at hp; exact hp
  | bk env1 ah1 => rw [q] at hp; exact hp
  | ct env1 ah1 => rw [q] at hp; exact hp
  | exn c fs env1 ah1 => rw [q] at hp; exact hp
  | stuck => rw [q] at hp; exact hp
theorem pzs_one (h1 : PZ X W st ma) : PZs X W [st] ma := PSs.weak (pss_one h1) fun D σ H h => h
theorem pz_ret (h : PD X W e m) : PZ X W (.Return (some e) pos) (sRet m) := by
  refine PS.weak (ps_ret h) fun D σ H ⟨μ, env, ah, he, hs, hp⟩ => ?_
  exact ⟨μ, env, ah, he, hs, PostS.bind hp he fun d ah1 μ1 x H1 e1 s1 r1 p1 => p1 μ1 x H1 Ext.refl s1 r1⟩
theorem pz_expr (h : PD X W e m) (hs : swapsWith e none pos.line X.env = pure false := by rfl) : PZ X W (.Expr e pos) (sExpr m) := by
  refine PS.weak (ps_expr h hs) fun D σ H ⟨μ, env, ah, he, hs, hp⟩ => ?_
  exact ⟨μ, env, ah, he, hs, PostS.bind hp he fun d ah1 μ1 x H1 e1 s1 r1 p1 => post_next p1 s1 (he.ext e1)⟩
theorem pz_if {c : Expr} {a b : List Stmt} {mc : EM Bool} (hc : PB X W c mc) (ha : PZs X W a ma) (hb : PZs X W b mb) : PZ X W (.If c a b pos) (sIf mc ma mb) := by
  refine PS.weak (ps_if hc ha hb) fun D σ H ⟨μ, env, ah, he, hs, hp⟩ => ?_
  refine ⟨μ, env, ah, he, hs, PostS.bind hp he fun d ah1 μ1 x H1 e1 s1 r1 p1 => ?_⟩
  cases (show d = x from r1)
  cases d with
  | true => exact ⟨μ1, env, ah1, he.ext e1, s1, p1⟩
  | false => exact ⟨μ1, env, ah1, he.ext e1, s1, p1⟩
abbrev TM := D → Env → AH → Option Env
def But (ts : List Nat) (σ σ' : L2.St) : Prop := σ'.length = σ.length ∧ ∀ j, j ∉ ts → σ'[j]? = σ[j]?
def tGt (K : PySem.W.Frag) (ts : List Nat) (tm : TM) : TG := fun v σ H Q => ∃ μ env ah d env', EnvRel K μ H env σ ∧ Sim K μ H ah ∧ Rep K μ H d v ∧ tm d env ah = some env' ∧ ∀ σ', EnvRel K μ H env' σ' → But ts σ σ' → Q σ' H
def tGts (K : PySem.W.Frag) (ts : List Nat) (tm : List D → Env → AH → Option Env) : TGs := fun vs σ H Q => ∃ μ env ah ds env', EnvRel K μ H env σ ∧ Sim K μ H ah ∧ Reps K μ H ds vs ∧ tm ds env ah = some env' ∧ ∀ σ', EnvRel K μ H env' σ' → But ts σ σ' → Q σ' H
theorem PG.weak {tg : Expr} {t t' : TG} (h : PG X tg t) (k : ∀ v σ H Q, t' v σ H Q → t v σ H Q) : PG X tg t' := ⟨fun pins s σ H v u Q I r q => h.run pins s σ H v u Q I r (k v σ H Q q)⟩
theorem PGs.weak {tg : List Expr} {t t' : TGs} (h : PGs X tg t) (k : ∀ v σ H Q, t' v σ H Q → t v σ H Q) : PGs X tg t' := ⟨fun pins s σ H v u Q I r q => h.run pins s σ H v u Q I r (k v σ H Q q)⟩
def PT1 (X : Cx) (tg : Expr) (ts : List Nat) (tm : TM) : Prop := PG X tg (tGt X.K ts tm)
def PTn (X : Cx) (tg : List Expr) (ts : List Nat) (tm : List D → Env → AH → Option Env) : Prop := PGs X tg (tGts X.K ts tm)
theorem But.refl {ts : List Nat} {σ : L2.St} : But ts σ σ := ⟨rfl, fun _ _ => rfl⟩
theorem But.trans {ts us : List Nat} {σ σ1 σ2 : L2.St} (a : But ts σ σ1) (b : But us σ1 σ2) : But (ts ++ us) σ σ2 := ⟨b.1.trans a.1, fun j h => by
  rw [List.mem_append, not_or] at h
  exact (b.2 j h.2).trans (a.2 j h.1)⟩
theorem EnvRel.set {K : PySem.W.Frag} {μ : List Addr} {H : Hp} {env : Env} {σ : L2.St} {d : D} {v : V} (h : EnvRel K μ H env σ) (r : Rep K μ H d v) (i : Nat) : EnvRel K μ H (env.set i (some d)) (σ.set i (some v)) := by
  refine ⟨by simp [h.1], fun j x e => ?_⟩
  by_cases hj : i = j
  · subst hj
    have hl : i < env.length := by
      have := (List.getElem?_eq_some_iff.mp e).1
      simpa using this
    rw [List.getElem?_set_self hl] at e
    cases e
    exact ⟨v, by rw [List.getElem?_set_self (by rw [← h.1]; exact hl)], r⟩
  · rw [List.getElem?_set_ne hj] at e
    obtain ⟨w, q, rw⟩ := h.2 j x e
    exact ⟨w, by rw [List.getElem?_set_ne hj]; exact q, rw⟩
def gSet (i : Nat) : TM := fun d env _ => some (env.set i (some d))
theorem pt_name {i : Nat} {x : Str} (hN : X.N.Nodup) (hi : X.N[i]? = some x) (hx : Loc X.env.scope x) (hf : X.fn x = true ∨ X.env.scope.names.lookup x = some .local := by first | exact .inl rfl | exact .inr rfl | assumption) : PT1 X (.Name x pos) [i] (gSet i) := by
  refine PG.weak (pg_name hN hi hx hf) fun v σ H Q ⟨μ, env, ah, d, env', he, hs, r, e, q⟩ => ?_
  cases e
  exact q _ (he.set r i) ⟨by simp, fun j h => List.getElem?_set_ne (by intro z; exact h (by simp [z]))⟩
def gNilD : List D → Env → AH → Option Env := fun ds env _ => match ds with
  | [] => some env
  | _ => none
def gConsD (t : TM) (u : List D → Env → AH → Option Env) : List D → Env → AH → Option Env := fun ds env ah => match ds with
  | d :: r => (t d env ah).bind fun env1 => u r env1 ah
  | [] => none
theorem ptn_nil : PTn X [] [] gNilD := by
  refine PGs.weak pgs_nil fun v σ H Q ⟨μ, env, ah, ds, env', he, hs, r, e, q⟩ => ?_
  unfold gNilD at e
  split at e
  · cases e
    simp only [Reps] at r
    exact ⟨r, q _ he But.refl⟩
  · cases e
theorem ptn_cons {t : TM} {ts us : List Nat} {u : List D → Env → AH → Option Env} (h1 : PT1 X e ts t) (h2 : PTn X es us u) (hs : (assignEach (e :: es) X.env).map (·.2) = assign e X.env :: (assignEach es X.env).map (·.2) := by rfl) : PTn X (e :: es) (ts ++ us) (gConsD t u) := by
  refine PGs.weak (pgs_cons h1 h2 hs) fun v σ H Q ⟨μ, env, ah, ds, env', he, hs, r, eq, q⟩ => ?_
  unfold gConsD at eq
  split at eq
  · obtain ⟨env1, e1, e2⟩ := Option.bind_eq_some_iff.mp eq
    simp only [Reps] at r
    obtain ⟨w, ws, rfl, r1, r2⟩ := r
    exact ⟨w, ws, rfl, μ, env, ah, _, env1, he, hs, r1, e1, fun σ1 he1 b1 => ⟨μ, env1, ah, _, env', he1, hs, r2, e2, fun σ2 he2 b2 => q σ2 he2 (b1.trans b2)⟩⟩
  · cases eq
def gTupD (n : Nat) (u : List D → Env → AH → Option Env) : TM := fun d env ah => match d with
  | .tup ds => if ds.length = n then u ds env ah else none
  | _ => none
theorem pt_tup {j : Nat} {ts : List Nat} {u : List D → Env → AH → Option Env} {n : Nat} (hc : X.calm = true) (h : PTn X es ts u) (hn : (assignEach es X.env).length = n := by rfl) (hst : (assignEach es X.env).findIdx? (·.1) = none := by rfl) : PT1 X (.Tuple es j pos) ts (gTupD n u) := by
  refine PG.weak (pg_tup hc h hn hst) fun v σ H Q ⟨μ, env, ah, d, env', he, hs, r, eq, q⟩ => ?_
  unfold gTupD at eq
  split at eq
  · split at eq
    · rename_i hl
      obtain ⟨a, vs, rfl, q1, r1⟩ := d_tup r
      exact ⟨a, vs, rfl, q1, by rw [← r1.length]; exact hl, μ, env, ah, _, env', he, hs, r1, eq, q⟩
    · cases eq
  · cases eq
def sAsg (m : EM D) (t : TM) : SM := fun env ah => (m env ah).thenS env fun d ah1 => match t d env ah1 with
  | some env1 => .nx env1 ah1
  | none => .stuck
theorem asg_step {t : TM} {ts : List Nat} {D : Ends} {σ : L2.St} {H : Hp} (h : tS X.K W (sAsg m t) D σ H) : tAsg (tG X.K (RD X.K) W m) (tGt X.K ts t) D σ H := by
  obtain ⟨μ, env, ah, he, hs, hp⟩ := h
  refine ⟨μ, env, ah, he, hs, PostS.bind hp he fun d ah1 μ1 x H1 e1 s1 r1 p1 => ?_⟩
  split at p1
  · rename_i env1 eq
    exact ⟨μ1, env, ah1, d, env1, he.ext e1, s1, r1, eq, fun σ' he' _ => post_next p1 s1 he'⟩
  · exact p1.elim
theorem pz_asg {tg : Expr} {t : TM} {ts : List Nat} (h : PD X W e m) (hg : PT1 X tg ts t) (hs : swapsWithSole [tg] e pos.line X.env = pure false := by rfl) (hw : swappedStores [tg] e X.env = pure none := by rfl) (h1 : (assignEach [tg] X.env).map (·.2) = [assign tg X.env] := by rfl) : PZ X W (.Assign [tg] e pos) (sAsg m t) :=
  PS.weak (ps_asg h hg hs hw h1) fun _ _ _ q => asg_step q
theorem pz_set {i : Nat} {x : Str} {pos' : Pos} (hN : X.N.Nodup) (hi : X.N[i]? = some x) (hx : Loc X.env.scope x) (h : PD X W e m) (hs : swapsWith e (some (.Name x pos')) pos.line X.env = pure false := by rfl) (hf : X.fn x = true ∨ X.env.scope.names.lookup x = some .local := by first | exact .inl rfl | exact .inr rfl | assumption) : PZ X W (.Assign [.Name x pos'] e pos) (sAsg m (gSet i)) := by
  refine PS.weak (ps_set hN hi hx h hs hf) fun D σ H q => ?_
  obtain ⟨μ, env, ah, he, hs, hp⟩ := q
  refine ⟨μ, env, ah, he, hs, PostS.bind hp he fun d ah1 μ1 x H1 e1 s1 r1 p1 => ?_⟩
  exact post_next p1 s1 ((he.ext e1).set r1 i)
def sPar (i j : Nat) (ml : EM (List D)) : SM := fun env ah => (ml env ah).thenS env fun ds ah1 => match ds with
  | [x, y] => .nx ((env.set i (some x)).set j (some y)) ah1
  | _ => .stuck
end
end HA
namespace HA
open PySem PySem.Spec PyProof.Rows L2
structure Itm where
  items : List D
  guard : List (Nat × List D)
def Itm.okIn (t : Itm) (ah : AH) : Bool := t.guard.all fun p => decide (listAt ah p.1 = some p.2)
def ItOk (K : PySem.W.Frag) (μ : List Addr) (H : Hp) (t : Itm) (J : It) : Prop := ∀ (i : Nat) μ' H' ah', Ext K μ H μ' H' → Sim K μ' H' ah' → t.okIn ah' = true →
  (t.items.length ≤ i → J.stop i H') ∧ ∀ d, t.items[i]? = some d → J.go i H' ∧ ∀ x H'', J.yld i H' x H'' → Ext K μ' H' μ' H'' ∧ Sim K μ' H'' ah' ∧ Rep K μ' H'' d x
def RI (K : PySem.W.Frag) : Rel Itm It := ⟨fun _ μ H t J => ItOk K μ H t J, fun _ h => h⟩
theorem ItOk.ext {K : PySem.W.Frag} {μ μ1 : List Addr} {H H1 : Hp} {t : Itm} {J : It} (h : ItOk K μ H t J) (e : Ext K μ H μ1 H1) : ItOk K μ1 H1 t J := fun i μ' H' ah' e' => h i μ' H' ah' (e.trans e')
def PF (X : Cx) (W : WX) (tg iter : Expr) (mi : EM Itm) : Prop := PI X tg iter (tG X.K (RI X.K) W mi)
theorem PI.weak {X : Cx} {tg iter : Expr} {w w' : TI} (h : PI X tg iter w) (k : ∀ σ H R, w' σ H R → w σ H R) : PI X tg iter w' := ⟨fun pins s σ H R I q => h.run pins s σ H R I (k σ H R q)⟩
section
variable {X : Cx} {W : WX} {k : Nat} {e : Expr} {tg : Expr} {es : List Expr} {m : EM D} {ml : EM (List D)} {pos : Pos}
theorem itl_ok {K : PySem.W.Frag} {μ : List Addr} {H : Hp} {a : Addr} {ds : List D} {t : Itm} (ht : t.items = ds) (h : ∀ μ' H' ah', Ext K μ H μ' H' → Sim K μ' H' ah' → t.okIn ah' = true → ∃ vs, SqL K H' a vs ∧ Reps K μ' H' ds vs) : ItOk K μ H t (Itl K a) := by
  intro i μ' H' ah' e S o
  obtain ⟨vs, q, r⟩ := h μ' H' ah' e S o
  subst ht
  refine ⟨fun hl => ⟨vs, q, by rw [← r.length]; exact hl⟩, fun d ed => ?_⟩
  obtain ⟨v, ev, rv⟩ := r.get ed
  refine ⟨⟨vs, v, q, ev⟩, fun x H'' y => ?_⟩
  obtain ⟨eH, y⟩ := y
  subst eH
  have z := y vs q
  rw [ev] at z; cases z
  exact ⟨Ext.refl, S, rv⟩
theorem itt_ok {K : PySem.W.Frag} {μ : List Addr} {H : Hp} {a : Addr} {ds : List D} {vs : List V} (q : SqT K H a vs) (r : Reps K μ H ds vs) : ItOk K μ H ⟨ds, []⟩ (Itt K a) := by
  intro i μ' H' ah' e S o
  have q := e.tup.1 a vs q
  have r := r.ext e
  refine ⟨fun hl => ⟨vs, q, by rw [← r.length]; exact hl⟩, fun d ed => ?_⟩
  obtain ⟨v, ev, rv⟩ := r.get ed
  refine ⟨⟨vs, v, q, ev⟩, fun x H'' y => ?_⟩
  obtain ⟨eH, y⟩ := y
  subst eH
  have z := y vs q
  rw [ev] at z; cases z
  exact ⟨Ext.refl, S, rv⟩
def iNew (m : EM (List D)) : EM Itm := e1 m fun ds ah => .ok ⟨ds, []⟩ ah
theorem pf_l (h : PL X W e ml) : PF X W tg e (iNew ml) := by
  refine PI.weak (pi_list h) fun σ H R ⟨μ, env, ah, he, hs, hp⟩ => ?_
  refine ⟨μ, env, ah, he, hs, hp.bind fun ds ah1 μ1 x H1 e1 s1 r1 p1 => ?_⟩
  obtain ⟨a, vs, rfl, _, q, hm, r⟩ := r1
  refine ⟨a, rfl, ⟨vs, SqL.of q⟩, Post.ok1 (R := RI X.K) p1 s1 ?_⟩
  exact itl_ok rfl fun μ' H' ah' e S _ => ⟨vs, SqL.of (e.keep a _ hm q), r.ext e⟩
def iVal (d : D) (ah : AH) : Res Itm := match d with
  | .tup ds => .ok ⟨ds, []⟩ ah
  | .ref n => match listAt ah n with
    | some ds => .ok ⟨ds, [(n, ds)]⟩ ah
    | none => .stuck
  | _ => .stuck
theorem pf_d (h : PD X W e m) : PF X W tg e (e1 m iVal) := by
  have two : PI X tg e (fun σ H R => iTup X.K (tG X.K (RD X.K) W m) σ H R) := pi_tup h
  have one : PI X tg e (fun σ H R => iList X.K (tG X.K (RD X.K) W m) σ H R) := pi_list h
  have both : PI X tg e (fun σ H R => iTup X.K (tG X.K (RD X.K) W m) σ H R ∨ iList X.K (tG X.K (RD X.K) W m) σ H R) := ⟨fun pins s σ H R I q => q.elim (two.run pins s σ H R I) (one.run pins s σ H R I)⟩
  refine PI.weak both fun σ H R ⟨μ, env, ah, he, hs, hp⟩ => ?_
  cases q : m env ah with
  | stuck => unfold e1 at hp; rw [q] at hp; exact hp.elim
  | exn c fs ah1 =>
    left
    unfold e1 at hp; rw [q] at hp
    exact ⟨μ, env, ah, he, hs, by rw [q]; exact hp⟩
  | ok d ah1 =>
    unfold e1 at hp; rw [q] at hp
    cases d with
    | tup ds =>
      left
      refine ⟨μ, env, ah, he, hs, ?_⟩
      rw [q]
      intro μ1 x H1 e1 s1 r1
      obtain ⟨a, vs, rfl, q2, r2⟩ := d_tup (show Rep X.K μ1 H1 (.tup ds) x from r1)
      exact ⟨a, rfl, ⟨vs, q2⟩, Post.ok1 (R := RI X.K) (Post.ext e1 hp) s1 (itt_ok q2 r2)⟩
    | ref n =>
      right
      refine ⟨μ, env, ah, he, hs, ?_⟩
      rw [q]
      intro μ1 x H1 e1 s1 r1
      obtain ⟨a, ea, rfl⟩ := d_ref (show Rep X.K μ1 H1 (.ref n) x from r1)
      unfold iVal at hp
      rw [Res.bind_ok] at hp
      dsimp only at hp
      split at hp
      · rename_i ds el
        obtain ⟨b, vs, eb, q2, r2⟩ := s1.list el
        rw [ea] at eb; cases eb
        refine ⟨a, rfl, ⟨vs, q2⟩, Post.ok1 (R := RI X.K) (Post.ext e1 hp) s1 ?_⟩
        refine itl_ok rfl fun μ' H' ah' e S o => ?_
        have z : listAt ah' n = some ds := by
          simp only [Itm.okIn, List.all_cons, List.all_nil, Bool.and_true, decide_eq_true_eq] at o
          exact o
        obtain ⟨b, ws, eb, q3, r3⟩ := S.list z
        rw [pre_get e.pre ea] at eb; cases eb
        exact ⟨ws, q3, r3⟩
      · exact hp.elim
    | _ => exact hp.elim
def iRange1 (d : D) (ah : AH) : Res Itm := match d with
  | .int j => if -(2 ^ 62) ≤ j ∧ j < 2 ^ 62 then .ok ⟨(List.range j.toNat).map fun (i : Nat) => D.int i, []⟩ ah else .stuck
  | _ => .stuck
def iRange2 (d f : D) (ah : AH) : Res Itm := match d, f with
  | .int i, .int j => if -(2 ^ 62) ≤ i ∧ i < 2 ^ 62 ∧ -(2 ^ 62) ≤ j ∧ j < 2 ^ 62 then .ok ⟨(List.range (j - i).toNat).map fun (n : Nat) => D.int (i + n), []⟩ ah else .stuck
  | _, _ => .stuck
theorem itr_ok {K : PySem.W.Frag} {μ : List Addr} {H : Hp} {lo : Int} {n : Nat} {f : Nat → D} (hf : ∀ i, f i = .int (lo + i)) : ItOk K μ H ⟨(List.range n).map f, []⟩ (Itr lo n) := by
  intro i μ' H' ah' e S o
  refine ⟨fun hl => (show n ≤ i by simpa using hl), fun d ed => ?_⟩
  rw [List.getElem?_map] at ed
  have hi : i < n := by
    cases q : (List.range n)[i]? with
    | none => rw [q] at ed; cases ed
    | some j => have := (List.getElem?_eq_some_iff.mp q).1; simpa using this
  refine ⟨hi, fun x H'' y => ?_⟩
  obtain ⟨eH, ex⟩ := y
  subst eH ex
  rw [List.getElem?_range hi, Option.map_some, hf] at ed
  cases ed
  exact ⟨Ext.refl, S, by simp only [Rep]⟩
theorem pf_range1 {a : Expr} {p : Pos} {ma : EM D} (hg : Gl X "range") (hm : X.mg "range" = none) (ha : PD X W a ma) (hs : starEach [a] X.env = [(false, eval a X.env)] := by rfl) : PF X W tg (.Call (.Name "range" p) [a] [] pos) (e1 ma iRange1) := by
  refine PI.weak (pi_range1 hg hm (pa_cons ha pa_nil hs) hs) fun σ H R ⟨μ, env, ah, he, hs, hp⟩ => ?_
  refine ⟨μ, env, ah, he, hs, hp.bind fun d ah1 μ1 x H1 e1 s1 r1 p1 => ?_⟩
  unfold iRange1 at p1
  split at p1
  · rename_i j
    split at p1
    · rename_i hl
      rw [d_int (show Rep X.K μ1 H1 (.int j) x from r1)]
      exact ⟨j, rfl, hl.1, hl.2, Post.ok1 (R := RI X.K) p1 s1 (itr_ok fun i => by rw [Int.zero_add])⟩
    · exact p1.elim
  · exact p1.elim
def forLoop (t : Itm) (tm : TM) (body : SM) : List D → Env → AH → SRes
  | [], env, ah => if t.okIn ah = true then .nx env ah else .stuck
  | d :: ds, env, ah => if t.okIn ah = true then match tm d env ah with
    | some env1 => match body env1 ah with
      | .nx e a => forLoop t tm body ds e a
      | .ct e a => forLoop t tm body ds e a
      | .bk e a => .nx e a
      | r => r
    | none => .stuck else .stuck
def sFor (mi : EM Itm) (tm : TM) (body : SM) : SM := fun env ah => (mi env ah).thenS env fun t ah1 => forLoop t tm body t.items env ah1
theorem pz_for {iter : Expr} {body : List Stmt} {mi : EM Itm} {tm : TM} {ts : List Nat} {mb : SM} (hp : PassesOwn (model X.prog X.w) X.A X.env X.xe) (hc : X.calm = true) (hi : PF X W tg iter mi) (hg : PT1 X tg ts tm) (hb : PZs X W body mb)
    (hs : ∀ x, foldedSetIterable iter X.env x = pure x := by intro _; rfl) : PZ X W (.For tg iter body [] pos) (sFor mi tm mb) := by
  refine PS.weak (ps_for hp hc hi hg hb hs) fun D σ H ⟨μ, env, ah, he, hs, hp⟩ => ?_
  refine ⟨μ, env, ah, he, hs, PostS.bind hp he fun t ah1 μ1 J H1 e1 s1 r1 p1 => ?_⟩
  have ok1 : ItOk X.K μ1 H1 t J := r1
  refine ⟨fun i n σ' H' => ∃ μ' env' ah', Ext X.K μ1 H1 μ' H' ∧ Sim X.K μ' H' ah' ∧ EnvRel X.K μ' H' env' σ' ∧ PostS X.K W D μ' H' (forLoop t tm mb (t.items.drop i) env' ah') ∧ i + n = t.items.length, ⟨t.items.length, μ1, env, ah1, Ext.refl, s1, he.ext e1, by rw [List.drop_zero]; exact p1, by omega⟩, ?_⟩
  rintro i n σ' H' ⟨μ', env', ah', ex, S, er, po, hn⟩
  by_cases hi : i < t.items.length
  · have ed : t.items[i]? = some t.items[i] := List.getElem?_eq_getElem hi
    rw [List.drop_eq_getElem_cons hi] at po
    unfold forLoop at po
    split at po
    · rename_i okb
      obtain ⟨_, ok2⟩ := ok1 i μ' H' ah' ex S okb
      obtain ⟨go, yl⟩ := ok2 _ ed
      refine .inr ⟨go, _, fun σ2 H2 h => ⟨n - 1, by omega, h⟩, fun x H'' y => ?_⟩
      obtain ⟨ex2, S2, rx⟩ := yl x H'' y
      split at po
      · rename_i env1 et
        refine ⟨μ', env', ah', _, env1, er.ext ex2, S2, rx, et, fun σ3 he3 _ => ⟨μ', env1, ah', he3, S2, ?_⟩⟩
        have fin : ∀ {μ5 : List Addr} {H5 : Hp} {σ5 : L2.St} {e5 : Env} {a5 : AH}, Ext X.K μ' H'' μ5 H5 → Sim X.K μ5 H5 a5 → EnvRel X.K μ5 H5 e5 σ5 → PostS X.K W D μ' H' (forLoop t tm mb (t.items.drop (i + 1)) e5 a5) →
            ∃ μ' env' ah', Ext X.K μ1 H1 μ' H5 ∧ Sim X.K μ' H5 ah' ∧ EnvRel X.K μ' H5 env' σ5 ∧ PostS X.K W D μ' H5 (forLoop t tm mb (t.items.drop (i + 1)) env' ah') ∧ i + 1 + (n - 1) = t.items.length := fun x5 s5 r5 p5 =>
          ⟨_, _, _, (ex.trans ex2).trans x5, s5, r5, PostS.ext (ex2.trans x5) p5, by omega⟩
        cases q : mb env1 ah' with
        | nx e5 a5 => rw [q] at po; exact fun μ5 σ5 H5 x5 s5 r5 => fin x5 s5 r5 po
        | ct e5 a5 => rw [q] at po; exact fun μ5 σ5 H5 x5 s5 r5 => fin x5 s5 r5 po
        | bk e5 a5 => rw [q] at po; exact fun μ5 σ5 H5 x5 s5 r5 => po μ5 σ5 H5 (ex2.trans x5) s5 r5
        | rt d5 a5 => rw [q] at po; exact fun μ5 v5 H5 x5 s5 r5 => po μ5 v5 H5 (ex2.trans x5) s5 r5
        | exn c5 f5 e5 a5 => rw [q] at po; exact fun μ5 σ5 H5 od x5 s5 r5 z5 => po μ5 σ5 H5 od (ex2.trans x5) s5 r5 z5
        | stuck => rw [q] at po; exact po
      · exact po.elim
    · exact po.elim
  · have e0 : t.items.drop i = [] := List.drop_eq_nil_of_le (by omega)
    rw [e0] at po
    unfold forLoop at po
    split at po
    · rename_i okb
      exact .inl ⟨(ok1 i μ' H' ah' ex S okb).1 (by omega), post_next po S er⟩
    · exact po.elim
@[irreducible] def nW : Nat := 100000
theorem nW_eq : nW = 100000 := by unfold nW; rfl
def whLoop (c : EM Bool) (body : SM) : Nat → Env → AH → SRes
  | 0, _, _ => .stuck
  | n + 1, env, ah => (c env ah).thenS env fun b ah1 => if b = true then match body env ah1 with
      | .nx e a => whLoop c body n e a
      | .ct e a => whLoop c body n e a
      | .bk e a => .nx e a
      | r => r else .nx env ah1
end
end HA
namespace HA
open PySem PySem.Spec PyProof.Rows L2
def noMem (K : PySem.W.Frag) : Prop := PySem.W.nsIn K mainGlobals "Memory" = some none
def Fr (K : PySem.W.Frag) (c : Value) : Prop := c = .ref (gA K "Refused") → ¬ noMem K
def frW (K : PySem.W.Frag) (W : WX) : WX := fun c d σ H => Fr K c ∧ W c d σ H
def frE (K : PySem.W.Frag) (E : XK) : XK := fun c d H => Fr K c ∧ E c d H
def W0 : WX := fun _ _ _ _ => False
structure Takes (X : Cx) (W : WX) : Prop where
  n : L2N.Takes X W
  c : L2.Takes X (frW X.K W)
def CXf (K : PySem.W.Frag) (P : Program) (w : World) : CXT := fun lo H s E u s' => L2N.CX P w lo H s E u s' ∨ L2.CX P w lo H s (frE K E) u s'
theorem passF {X : Cx} {W : WX} (tk : Takes X W) (σ : L2.St) : PassesAt (CXf X.K X.prog X.w) X σ (WE W σ) := fun _ _ _ e s' I c => c.elim
  (fun c => tk.n e s' (L2N.XE.of_call I (fun _ _ _ h => h) c)) fun c => tk.c e s' (L2.XE.of_call (E := frE X.K (WE W σ)) I (fun _ _ _ h => h) c)
theorem takes_f {X : Cx} {E : XK} (hs : X.stack = X.env :: X.outer) (hf : X.env.frame = some X.env.locals) (hex : X.ex = []) {E1 : Value → Shared → Prop}
    (hx : X.xe = fun e s' => wpAny (model X.prog X.w) X.A (leaving X.env e) (fun _ s'' => CXf X.K X.prog X.w X.outer X.H_0 X.s_0 E e s'') E1 s') : Takes X (fun cls d _ H => E cls d H) := by
  refine ⟨fun u s' x => ?_, fun u s' x => ?_⟩
  · rw [hx]
    exact wpAny_mono (L2N.XE.leave (E := E) (E₁ := E1) hs hf hex (fun _ _ _ _ h => h) x) (fun _ _ h => .inl h) fun _ _ h => h
  · rw [hx]
    exact wpAny_mono (L2.XE.leave (E := frE X.K E) (E₁ := E1) hs hf hex (fun _ _ _ _ h => h) x) (fun _ _ h => .inr h) fun _ _ h => h
theorem takes0 {X : Cx} : Takes X W0 := ⟨fun _ _ ⟨_, _, _, _, _, _, _, _, _, _, _, _, _, _, _, _, h⟩ => h.elim, fun _ _ ⟨_, _, _, _, _, _, _, _, _, _, _, _, _, _, _, _, h⟩ => h.2.elim⟩
theorem Takes.imp {X : Cx} {W W' : WX} (t : Takes X W) (h : ∀ c d σ H, W' c d σ H → W c d σ H) : Takes X W' := ⟨t.n.imp h, t.c.imp fun c d σ H z => ⟨z.1, h c d σ H z.2⟩⟩
section
variable {X : Cx} {e : Expr} {es : List Expr} {ta : TA} {p pos : Pos}
end
end HA
namespace HA
open PySem PySem.Spec PyProof.Rows L2
def wipeE (env : Env) : List Nat → Env
  | [] => env
  | v :: vs => (wipeE env vs).set v none
theorem wipe_rel {K : PySem.W.Frag} {μ : List Addr} {H : Hp} {env : Env} {σ : L2.St} (h : EnvRel K μ H env σ) : ∀ vs, EnvRel K μ H (wipeE env vs) (wipe σ vs)
  | [] => h
  | v :: vs => by
    have q := wipe_rel h vs
    refine ⟨by simp [wipeE, wipe, q.1], fun j d e => ?_⟩
    unfold wipeE at e
    unfold wipe
    by_cases hj : v = j
    · subst hj
      have hl : v < (wipeE env vs).length := by
        have := (List.getElem?_eq_some_iff.mp e).1
        simpa using this
      rw [List.getElem?_set_self hl] at e
      cases e
    · rw [List.getElem?_set_ne hj] at e
      obtain ⟨w, x, y⟩ := q.2 j d e
      exact ⟨w, by rw [List.getElem?_set_ne hj]; exact x, y⟩
theorem wipe_at (σ : L2.St) : ∀ (vs : List Nat) (j : Nat), (wipe σ vs)[j]? = if j ∈ vs ∧ j < σ.length then some none else σ[j]?
  | [], j => by simp [wipe]
  | v :: vs, j => by
    unfold wipe
    by_cases hj : v = j
    · subst hj
      by_cases hl : v < σ.length
      · rw [List.getElem?_set_self (by rw [wipe_length]; exact hl)]; simp [hl]
      · rw [List.getElem?_eq_none (by rw [List.length_set, wipe_length]; omega)]
        simp [hl]
    · rw [List.getElem?_set_ne hj, wipe_at σ vs j]
      have : j ∈ v :: vs ↔ j ∈ vs := by
        rw [List.mem_cons]
        exact ⟨fun h => h.elim (fun z => absurd z.symm hj) id, .inr⟩
      simp only [this]
theorem wipe_but {ts vs : List Nat} {σ σ' : L2.St} (h : But ts σ σ') (hs : ∀ j ∈ ts, j ∈ vs) : wipe σ' vs = wipe σ vs := by
  apply List.ext_getElem?
  intro j
  rw [wipe_at, wipe_at, h.1]
  by_cases hj : j ∈ vs ∧ j < σ.length
  · rw [if_pos hj, if_pos hj]
  · rw [if_neg hj, if_neg hj]
    by_cases hm : j ∈ ts
    · have : ¬ j < σ.length := fun z => hj ⟨hs j hm, z⟩
      rw [List.getElem?_eq_none (by rw [h.1]; omega), List.getElem?_eq_none (by omega)]
    · exact h.2 j hm
theorem wipe_wipe (σ : L2.St) (vs : List Nat) : wipe (wipe σ vs) vs = wipe σ vs := by
  apply List.ext_getElem?
  intro j
  rw [wipe_at, wipe_at, wipe_length]
  split
  · rfl
  · rfl
theorem Sim.foreign {K : PySem.W.Frag} {μ : List Addr} {H : Hp} {ah : AH} (S : Sim K μ H ah) {p : Addr} {u : HO} {vs : List V} (hm : p ∉ μ.tail) (hp : H p = some (.lst vs)) : Sim K μ (upd H p u) ah := by
  have mu : Mut (H p) := by rw [hp]; trivial
  refine ⟨S.len, S.nd, fun n a o e1 e2 => ?_, S.pos, S.ro0⟩
  refine (S.ok n a o e1 e2).mono (List.prefix_refl _) (TExt.mut mu) (fun q => ?_) fun ob v z => ?_
  · refine upd_ne fun z => ?_
    subst z
    have hn : n ≠ 0 := fun z => by
      have := (S.ro0 n o e2).mpr z
      rw [q] at this; cases this
    obtain ⟨k, rfl⟩ : ∃ k, n = k + 1 := ⟨n - 1, by omega⟩
    exact hm (List.mem_of_getElem? (i := k) (by rw [List.getElem?_tail]; exact e1))
  · rw [upd_ne fun w => by subst w; rw [hp] at z; cases z]; exact z
theorem Ext.foreign {K : PySem.W.Frag} {μ μ1 : List Addr} {H H1 : Hp} {p : Addr} {u : HO} {vs : List V} (e : Ext K μ H μ1 H1) (h0 : H p = none) (hp : H1 p = some (.lst vs)) : Ext K μ H μ1 (upd H1 p u) where
  pre := e.pre
  tup := e.tup.trans (TExt.mut (by rw [hp]; trivial))
  new := e.new
  keep := fun a o hm h => by
    rw [upd_ne (fun z => by subst z; rw [h0] at h; cases h)]
    exact e.keep a o hm h
  there := fun a h => e.there a (there_upd a h)
def lcLoop (t : Itm) (tm : TM) (test : EM Bool) (elt : EM D) (vs : List Nat) (env : Env) : List D → List D → AH → Res (List D)
  | [], acc, ah => if t.okIn ah = true then .ok acc ah else .stuck
  | d :: ds, acc, ah => if t.okIn ah = true ∧ acc.length < line then match tm d (wipeE env vs) ah with
    | some env1 => match test env1 ah with
      | .ok true ah1 => match elt env1 ah1 with
        | .ok y ah2 => lcLoop t tm test elt vs env ds (acc ++ [y]) ah2
        | _ => .stuck
      | .ok false ah1 => lcLoop t tm test elt vs env ds acc ah1
      | _ => .stuck
    | none => .stuck else .stuck
def lLc (mi : EM Itm) (tm : TM) (test : EM Bool) (elt : EM D) (vs : List Nat) : EM (List D) := fun env ah => (mi env ah).bind fun t ah1 => lcLoop t tm test elt vs env t.items [] ah1
section
variable {X : Cx} {W : WX}
def PTsD (X : Cx) (W : WX) (ifs : List Expr) (m : EM Bool) : Prop := PTs X ifs (tG X.K RB W m)
def bYes : EM Bool := fun _ ah => .ok true ah
theorem PTs.weak {ifs : List Expr} {t t' : TT} (h : PTs X ifs t) (k : ∀ σ H Q, t' σ H Q → t σ H Q) : PTs X ifs t' := ⟨fun pins s σ H Q I q => h.run pins s σ H Q I (k σ H Q q)⟩
theorem ptsd_nil : PTsD X W [] bYes := PTs.weak pts_nil fun σ H Q ⟨μ, env, ah, he, hs, hp⟩ => Post.ok1 (R := RB) hp hs rfl
theorem ptsd_one {c : Expr} {m : EM Bool} (h : PB X W c m) : PTsD X W [c] m := pts_one h
theorem Post.only {β γ : Type} {K : PySem.W.Frag} {R : Rel β γ} {Wx : Value → Option Addr → Hp → Prop} {μ : List Addr} {H : Hp} {Q : γ → Hp → Prop} {r : Res β} {d : β} {ah : AH} (e : r = .ok d ah) (h : ∀ μ' x H', Ext K μ H μ' H' → Sim K μ' H' ah → R.r H μ' H' d x → Q x H') : Post K R Wx μ H Q r := by rw [e]; exact h
theorem lc_step {σ : L2.St} {H : Hp} {Q : VK} {mi : EM Itm} {ts vs : List Nat} {tm : TM} {mt : EM Bool} {me : EM D} (hts : ∀ j ∈ ts, j ∈ vs) (h : tG X.K (RL X.K) W (lLc mi tm mt me vs) σ H Q) :
    tLc (tG X.K (RI X.K) W mi) (tGt X.K ts tm) (tG X.K RB W0 mt) (tG X.K (RD X.K) W0 me) vs σ H Q := by
  obtain ⟨μ, env, ah, he, hs, hp⟩ := h
  refine ⟨μ, env, ah, he, hs, hp.bind0 fun t ah1 μ1 J H1 e1 s1 r1 p1 => ?_⟩
  have ok1 : ItOk X.K μ1 H1 t J := r1
  intro p np
  have p1 := Post.ext e1 p1
  have h0 : H p = none := e1.there p np
  refine ⟨fun i n H' => ∃ μ' ah' acc avs, Ext X.K μ1 H1 μ' H' ∧ Sim X.K μ' H' ah' ∧ H' p = some (.lst avs) ∧ p ∉ μ'.tail ∧ Reps X.K μ' H' acc avs ∧ Post X.K (RL X.K) (fun c d H' => W c d σ H') μ1 H1 Q (lcLoop t tm mt me vs env (t.items.drop i) acc ah') ∧ i + n = t.items.length,
    ⟨t.items.length, μ1, ah1, [], [], Ext.other np, s1.other np, upd_same, s1.free np, Reps.nil, by rw [List.drop_zero]; exact p1, by omega⟩, ?_⟩
  rintro i n H' ⟨μ', ah', acc, avs, ex, S, hD, hm, ra, po, hn⟩
  have wf : ∀ {μ5 : List Addr} {H5 : Hp}, Ext X.K μ' H' μ5 H5 → H5 p = some (.lst avs) ∧ p ∉ μ5.tail := fun {μ5 H5} x5 => by
    refine ⟨x5.keep p _ hm hD, fun z => ?_⟩
    rcases x5.new p z with w | w
    · exact hm w
    · rw [hD] at w; cases w
  by_cases hi : i < t.items.length
  · have ed : t.items[i]? = some t.items[i] := List.getElem?_eq_getElem hi
    rw [List.drop_eq_getElem_cons hi] at po
    unfold lcLoop at po
    split at po
    · rename_i okb
      obtain ⟨go, yl⟩ := (ok1 i μ' H' ah' ex S okb.1).2 _ ed
      refine .inr ⟨go, _, fun H2 h => ⟨n - 1, by omega, h⟩, fun x H'' y => ?_⟩
      obtain ⟨ex2, S2, rx⟩ := yl x H'' y
      split at po
      · rename_i env1 et
        refine ⟨μ', wipeE env vs, ah', _, env1, (wipe_rel (he.ext (e1.trans (ex.trans ex2))) vs), S2, rx, et, fun σ2 he2 b2 => ?_⟩
        refine ⟨by rw [wipe_but b2 hts, wipe_wipe], ?_⟩
        have nxt : ∀ {μ5 : List Addr} {H5 : Hp} {a5 : AH}, Ext X.K μ' H'' μ5 H5 → Sim X.K μ5 H5 a5 → Post X.K (RL X.K) (fun c d H' => W c d σ H') μ1 H1 Q (lcLoop t tm mt me vs env (t.items.drop (i + 1)) acc a5) →
            ∃ μ' ah' acc avs, Ext X.K μ1 H1 μ' H5 ∧ Sim X.K μ' H5 ah' ∧ H5 p = some (.lst avs) ∧ p ∉ μ'.tail ∧ Reps X.K μ' H5 acc avs ∧ Post X.K (RL X.K) (fun c d H' => W c d σ H') μ1 H1 Q (lcLoop t tm mt me vs env (t.items.drop (i + 1)) acc ah') ∧ i + 1 + (n - 1) = t.items.length := fun {μ5 H5 a5} x5 s5 p5 =>
          let ⟨w1, w2⟩ := wf (ex2.trans x5)
          ⟨μ5, a5, acc, avs, (ex.trans ex2).trans x5, s5, w1, w2, ra.ext (ex2.trans x5), p5, by omega⟩
        cases qt : mt env1 ah' with
        | ok b ah2 =>
          rw [qt] at po
          cases b with
          | false =>
            refine ⟨μ', env1, ah', he2, S2, Post.only qt fun μ3 b3 H3 x3 s3 r3 => ?_⟩
            cases (show false = b3 from r3)
            rw [if_neg Bool.false_ne_true]
            exact nxt x3 s3 po
          | true =>
            refine ⟨μ', env1, ah', he2, S2, Post.only qt fun μ3 b3 H3 x3 s3 r3 => ?_⟩
            cases (show true = b3 from r3)
            rw [if_pos rfl]
            dsimp only at po
            cases qe : me env1 ah2 with
            | ok y ah3 =>
              rw [qe] at po
              refine ⟨μ3, env1, ah2, he2.ext x3, s3, Post.only qe fun μ4 y4 H4 x4 s4 r4 => ?_⟩
              obtain ⟨w1, w2⟩ := wf ((ex2.trans x3).trans x4)
              have ry : Rep X.K μ4 H4 y y4 := r4
              have ra4 := ra.ext ((ex2.trans x3).trans x4)
              refine ⟨avs, w1, Nat.lt_of_lt_of_le (by rw [← ra.length]; exact okb.2) (line_le (Nat.le_refl _)), μ4, ah3, acc ++ [y], avs ++ [y4], Ext.foreign (((ex.trans ex2).trans x3).trans x4) np w1, s4.foreign w2 w1, upd_same, w2, ?_, po, by omega⟩
              have tx : TExt X.K H4 (upd H4 p (.lst (avs ++ [y4]))) := TExt.mut (by rw [w1]; trivial)
              exact Reps.append (Reps.mono (List.prefix_refl _) tx _ _ ra4) (Reps.cons (Rep.mono (List.prefix_refl _) tx _ _ ry) Reps.nil)
            | exn c fs a3 => rw [qe] at po; exact po.elim
            | stuck => rw [qe] at po; exact po.elim
        | exn c fs a3 => rw [qt] at po; exact po.elim
        | stuck => rw [qt] at po; exact po.elim
      · exact po.elim
    · exact po.elim
  · have ez : t.items.drop i = [] := List.drop_eq_nil_of_le (by omega)
    rw [ez] at po
    unfold lcLoop at po
    split at po
    · rename_i okb
      refine .inl ⟨(ok1 i μ' H' ah' ex S okb).1 (by omega), ?_⟩
      exact po μ' _ H' ex S ⟨p, avs, rfl, np, hD, hm, ra⟩
    · exact po.elim
variable {elt tg iter : Expr} {ifs : List Expr} {scope : Scope} {own : List (Str × Nat)} {pos : Pos} {mi : EM Itm} {tm : TM} {ts : List Nat} {mt : EM Bool} {me : EM D}
theorem pl_lc (hc : X.calm = true) (hN : X.N.Nodup) (hi : PF X W tg iter mi) (ok : BlkOk X.N X.env.scope scope own) (hts : ∀ j ∈ ts, j ∈ own.map (·.2))
    (hg : ∀ (s : Shared) (H : Hp) (C : Addr) (cl : List (Str × Addr)) (fp : List Addr), PT1 (X.blk s H scope (compEnvC scope cl C X.env) fp) tg ts tm) (ht : ∀ (s : Shared) (H : Hp) (C : Addr) (cl : List (Str × Addr)) (fp : List Addr), PTsD (X.blk s H scope (compEnvC scope cl C X.env) fp) W0 ifs mt)
    (he : ∀ (s : Shared) (H : Hp) (C : Addr) (cl : List (Str × Addr)) (fp : List Addr), PD (X.blk s H scope (compEnvC scope cl C X.env) fp) W0 elt me) (hs : ∀ x, foldedSetIterable iter X.env x = pure x := by intro _; rfl) :
    PL X W (.ListComp elt [⟨tg, iter, ifs, 0⟩] scope pos) (lLc mi tm mt me (own.map (·.2))) :=
  PE.weak (pe_lc (g := tGt X.K ts tm) (tt := tG X.K RB W0 mt) (te := tG X.K (RD X.K) W0 me) hc hN hi ok hg ht he hs) fun _ _ _ q => lc_step hts q
theorem pz_setLc {i : Nat} {y : Str} {py spos : Pos} (hc : X.calm = true) (hN : X.N.Nodup) (hy : X.N[i]? = some y) (hyl : X.env.scope.names.lookup y = some .local)
    (hsw : swapsWith (.ListComp elt [⟨tg, iter, ifs, 0⟩] scope pos) (some (.Name y py)) spos.line X.env = pure true) (hi : PF X W tg iter mi) (ok : BlkOk X.N X.env.scope scope own) (hts : ∀ j ∈ ts, j ∈ own.map (·.2))
    (hg : ∀ (s : Shared) (H : Hp) (C : Addr) (cl : List (Str × Addr)) (fp : List Addr), PT1 (X.blk s H scope (compEnvC scope cl C X.env) fp) tg ts tm) (ht : ∀ (s : Shared) (H : Hp) (C : Addr) (cl : List (Str × Addr)) (fp : List Addr), PTsD (X.blk s H scope (compEnvC scope cl C X.env) fp) W0 ifs mt)
    (he : ∀ (s : Shared) (H : Hp) (C : Addr) (cl : List (Str × Addr)) (fp : List Addr), PD (X.blk s H scope (compEnvC scope cl C X.env) fp) W0 elt me) (hs : ∀ x, foldedSetIterable iter X.env x = pure x := by intro _; rfl) :
    PZ X W (.Assign [.Name y py] (.ListComp elt [⟨tg, iter, ifs, 0⟩] scope pos) spos) (sAsg (eNew (lLc mi tm mt me (own.map (·.2)))) (gSet i)) := by
  refine PS.weak (ps_setLc (g := tGt X.K ts tm) (tt := tG X.K RB W0 mt) (te := tG X.K (RD X.K) W0 me) hc hN hy hyl hsw hi ok hg ht he hs) fun D σ H q => ?_
  obtain ⟨μ, env, ah, he, hs, hp⟩ := q
  refine lc_step hts ?_
  refine ⟨μ, env, ah, he, hs, ?_⟩
  have z : PostS X.K W D μ H (((lLc mi tm mt me (own.map (·.2))) env ah).thenS env fun ds ah1 => .nx (env.set i (some (.ref ah1.length))) (ah1 ++ [.lst ds])) := by
    unfold sAsg eNew e1 at hp
    cases q : (lLc mi tm mt me (own.map (·.2))) env ah with
    | ok ds ah1 => rw [q] at hp; exact hp
    | exn c fs ah1 => rw [q] at hp; exact hp
    | stuck => rw [q] at hp; exact hp
  cases q : (lLc mi tm mt me (own.map (·.2))) env ah with
  | ok ds ah1 =>
    rw [q] at z
    intro μ1 x H1 e1 s1 r1
    obtain ⟨a, vs, rfl, h0, ha, hm, r⟩ := r1
    refine z (μ1 ++ [a]) _ H1 (e1.adopt h0 s1.mpos) (s1.adopt rfl hm ⟨vs, ha, Reps.mono (List.prefix_append _ _) TExt.refl ds vs r⟩) ?_
    refine EnvRel.set (he.ext (e1.adopt h0 s1.mpos)) ?_ i
    simp only [Rep]
    exact ⟨a, by rw [← s1.len]; simp, rfl⟩
  | exn c fs ah1 => rw [q] at z; exact fun μ' H' od e' s' x => z μ' σ H' od e' s' (he.ext e') x
  | stuck => rw [q] at z; exact z
end
end HA
namespace HA
open PySem PySem.Spec PyProof.Rows L2
def AObj.part1 : AObj → Nat × List D × List (Key × D)
  | .lst ds => (0, ds, [])
  | .ro ds => (1, ds, [])
  | .dK kvs => (2, [], kvs)
  | .dT _ => (3, [], [])
  | .ins _ _ => (4, [], [])
def AObj.part2 : AObj → List (List Key × D) × Str × List (Str × D)
  | .dT kvs => (kvs, "", [])
  | .ins C fs => ([], C, fs)
  | _ => ([], "", [])
instance : DecidableEq AObj := fun a b => decidable_of_iff (a.part1 = b.part1 ∧ a.part2 = b.part2) (by cases a <;> cases b <;> simp [AObj.part1, AObj.part2])
mutual
def D.und (n : Nat) : D → Bool
  | .ref m => decide (m < n)
  | .tup ds => D.unds n ds
  | .xv _ _ _ ds => D.unds n ds
  | _ => true
def D.unds (n : Nat) : List D → Bool
  | [] => true
  | d :: ds => D.und n d && D.unds n ds
end
theorem unds_all {n : Nat} : ∀ (ds : List D), D.unds n ds = ds.all (D.und n)
  | [] => rfl
  | d :: ds => by simp only [D.unds, List.all_cons, unds_all ds]
def AObj.und (n : Nat) : AObj → Bool
  | .lst ds => D.unds n ds
  | .ro ds => D.unds n ds
  | .dK kvs => D.unds n (kvs.map (·.2))
  | .dT kvs => D.unds n (kvs.map (·.2))
  | .ins _ fs => D.unds n (fs.map (·.2))
def sound (ah ah' : AH) : Bool := decide (ah'.take ah.length = ah) || (ah'.take ah.length).all (AObj.und ah.length)
def fin (ah : AH) (d : D) (ah' : AH) : Res D :=
  if ah'.length ≤ ah.length then .ok d ah' else if sound ah ah' = true then
    if d.und ah.length = true then .ok d (ah'.take ah.length) else match d with
      | .ref m => match ah'[m]? with
        | some o => if o.und ah.length = true then .ok (.ref ah.length) (ah'.take ah.length ++ [o]) else .ok d ah'
        | none => .ok d ah'
      | _ => .ok d ah'
  else .ok d ah'
def fsUnd (n : Nat) (fs : Option (List (Str × D))) : Bool := match fs with
  | none => true
  | some l => D.unds n (l.map (·.2))
def finX (ah : AH) (fs : Option (List (Str × D))) (ah' : AH) : AH := if ah'.length ≤ ah.length then ah' else if sound ah ah' = true ∧ fsUnd ah.length fs = true then ah'.take ah.length else ah'
section
variable {K : PySem.W.Frag} {μ μ' : List Addr} {H H' : Hp}
mutual
theorem Rep.cut {n : Nat} : ∀ (d : D) (v : V), d.und n = true → Rep K μ H d v → Rep K (μ.take n) H d v
  | .non, _, _, h => by simp only [Rep] at h ⊢; exact h
  | .bl b, _, _, h => by simp only [Rep] at h ⊢; exact h
  | .int i, _, _, h => by simp only [Rep] at h ⊢; exact h
  | .str x, _, _, h => by simp only [Rep] at h ⊢; exact h
  | .ref m, _, b, h => by
    simp only [Rep] at h ⊢
    obtain ⟨a, e, z⟩ := h
    simp only [D.und, decide_eq_true_eq] at b
    exact ⟨a, by rw [List.getElem?_take_of_lt b]; exact e, z⟩
  | .cst w, _, _, h => by simp only [Rep] at h ⊢; exact h
  | .glo w, _, _, h => by simp only [Rep] at h ⊢; exact h
  | .xv a d ks ds, _, b, h => by
    simp only [D.und] at b
    simp only [Rep] at h ⊢
    obtain ⟨e, vs, q, r⟩ := h
    exact ⟨e, vs, q, Reps.cutB ds vs b r⟩
  | .tup ds, _, b, h => by
    simp only [Rep] at h ⊢
    obtain ⟨a, vs, e, q, r⟩ := h
    exact ⟨a, vs, e, q, Reps.cutB ds vs b r⟩
theorem Reps.cutB {n : Nat} : ∀ (ds : List D) (vs : List V), D.unds n ds = true → Reps K μ H ds vs → Reps K (μ.take n) H ds vs
  | [], _, _, h => by simp only [Reps] at h ⊢; exact h
  | d :: ds, _, b, h => by
    simp only [Reps] at h ⊢
    obtain ⟨w, ws, e, r, t⟩ := h
    simp only [D.unds, Bool.and_eq_true] at b
    exact ⟨w, ws, e, Rep.cut d w b.1 r, Reps.cutB ds ws b.2 t⟩
end
mutual
theorem Rep.und : ∀ (d : D) (v : V), Rep K μ H d v → d.und μ.length = true
  | .non, _, _ => rfl
  | .bl b, _, _ => rfl
  | .int i, _, _ => rfl
  | .str x, _, _ => rfl
  | .ref m, _, h => by
    simp only [Rep] at h
    obtain ⟨a, e, z⟩ := h
    simp only [D.und, decide_eq_true_eq]
    exact (List.getElem?_eq_some_iff.mp e).1
  | .cst w, _, _ => rfl
  | .glo w, _, _ => rfl
  | .xv a d ks ds, _, h => by
    simp only [Rep] at h
    obtain ⟨e, vs, q, r⟩ := h
    exact Reps.unds ds vs r
  | .tup ds, _, h => by
    simp only [Rep] at h
    obtain ⟨a, vs, e, q, r⟩ := h
    exact Reps.unds ds vs r
theorem Reps.unds : ∀ (ds : List D) (vs : List V), Reps K μ H ds vs → D.unds μ.length ds = true
  | [], _, _ => rfl
  | d :: ds, _, h => by
    simp only [Reps] at h
    obtain ⟨w, ws, e, r, t⟩ := h
    simp only [D.unds, Bool.and_eq_true]
    exact ⟨Rep.und d w r, Reps.unds ds ws t⟩
end
theorem OOk.cut {n : Nat} {a : Addr} : ∀ {o : AObj}, o.und n = true → OOk K μ H a o → OOk K (μ.take n) H a o
  | .lst ds, b, ⟨vs, e, r⟩ => ⟨vs, e, Reps.cutB _ _ b r⟩
  | .ro ds, b, ⟨vs, e, r⟩ => ⟨vs, e, Reps.cutB _ _ b r⟩
  | .dK ds, b, ⟨vs, e, k, r⟩ => ⟨vs, e, k, Reps.cutB _ _ b r⟩
  | .dT ds, b, ⟨vs, e, k, r⟩ => ⟨vs, e, k, Reps.cutB _ _ b r⟩
  | .ins C ds, b, ⟨dx, vs, e, k, r⟩ => ⟨dx, vs, e, k, Reps.cutB _ _ b r⟩
theorem OOk.und {a : Addr} : ∀ {o : AObj}, OOk K μ H a o → o.und μ.length = true
  | .lst ds, ⟨vs, e, r⟩ => Reps.unds _ _ r
  | .ro ds, ⟨vs, e, r⟩ => Reps.unds _ _ r
  | .dK ds, ⟨vs, e, k, r⟩ => Reps.unds _ _ r
  | .dT ds, ⟨vs, e, k, r⟩ => Reps.unds _ _ r
  | .ins C ds, ⟨dx, vs, e, k, r⟩ => Reps.unds _ _ r
theorem Sim.below {ah : AH} (S : Sim K μ H ah) : ah.all (AObj.und ah.length) = true := by
  rw [List.all_eq_true]
  intro o ho
  obtain ⟨n, hn⟩ := List.getElem?_of_mem ho
  obtain ⟨a, _, r⟩ := S.at hn
  rw [← S.len]
  exact r.und
theorem Sim.cut {ah : AH} (S : Sim K μ H ah) {n : Nat} (h0 : 0 < n) (hb : (ah.take n).all (AObj.und n) = true) : Sim K (μ.take n) H (ah.take n) := by
  have gm : ∀ {i : Nat} {a : Addr}, (μ.take n)[i]? = some a → i < n ∧ μ[i]? = some a := fun {i a} e => by
    have : i < n := by
      have := (List.getElem?_eq_some_iff.mp e).1
      rw [List.length_take] at this
      omega
    rw [List.getElem?_take_of_lt this] at e
    exact ⟨this, e⟩
  have ga : ∀ {i : Nat} {a : AObj}, (ah.take n)[i]? = some a → i < n ∧ ah[i]? = some a := fun {i a} e => by
    have : i < n := by
      have := (List.getElem?_eq_some_iff.mp e).1
      rw [List.length_take] at this
      omega
    rw [List.getElem?_take_of_lt this] at e
    exact ⟨this, e⟩
  refine ⟨by rw [List.length_take, List.length_take, S.len], fun i j a o o' e1 e2 e3 e4 => S.nd i j a o o' (gm e1).2 (gm e2).2 (ga e3).2 (ga e4).2, fun i a o e1 e2 => ?_, ?_, fun i o e => S.ro0 i o (ga e).2⟩
  · exact (S.ok i a o (gm e1).2 (ga e2).2).cut (by rw [List.all_eq_true] at hb; exact hb o (List.mem_of_getElem? e2))
  · rw [List.length_take]
    have := S.pos
    omega
theorem Ext.take (e : Ext K μ H μ' H') : μ'.take μ.length = μ := by
  obtain ⟨t, rfl⟩ := e.pre
  simp
theorem Ext.back (e : Ext K μ H μ' H') : Ext K μ H μ H' := ⟨List.prefix_refl _, e.tup, fun _ h => .inl h, e.keep, e.there⟩
theorem Sim.old {ah ah' : AH} (S : Sim K μ H ah) (e : Ext K μ H μ' H') (S' : Sim K μ' H' ah') (hb : sound ah ah' = true) : Sim K μ H' (ah'.take ah.length) := by
  have := S'.cut (n := ah.length) S.pos (by
    unfold sound at hb
    rw [Bool.or_eq_true] at hb
    rcases hb with h | h
    · rw [decide_eq_true_eq] at h; rw [h]; exact S.below
    · exact h)
  rw [← S.len, e.take] at this
  rw [← S.len]
  exact this
theorem fin_run {Wx : Value → Option Addr → Hp → Prop} {Q : VK} {ah ah' : AH} {d : D} {v : V} (S : Sim K μ H ah) (e : Ext K μ H μ' H') (S' : Sim K μ' H' ah') (r : Rep K μ' H' d v) (hp : Post K (RD K) Wx μ H Q (fin ah d ah')) : Q v H' := by
  unfold fin at hp
  have all : Post K (RD K) Wx μ H Q (.ok d ah') → Q v H' := fun hp => hp μ' v H' e S' r
  split at hp
  · exact all hp
  · split at hp
    · rename_i hs
      split at hp
      · rename_i hd
        have := Rep.cut d v hd r
        rw [← S.len, e.take] at this
        exact hp μ v H' e.back (S.old e S' hs) this
      · rename_i hd
        split at hp
        · rename_i m
          split at hp
          · rename_i o eo
            split at hp
            · rename_i hb
              obtain ⟨a, ea, rfl⟩ := d_ref r
              have hm : ah.length ≤ m := by simpa [D.und] using hd
              have hr : o.isRo = false := by
                cases q : o.isRo with
                | false => rfl
                | true => have := (S'.ro0 m o eo).mp q; have := S.pos; omega
              have ha : a ∉ μ.tail := fun z => by
                obtain ⟨j, hj⟩ := List.getElem?_of_mem z
                rw [List.getElem?_tail] at hj
                have lj : j + 1 < ah.length := by have := (List.getElem?_eq_some_iff.mp hj).1; rw [S.len] at this; exact this
                have hj' := pre_get e.pre hj
                have : j + 1 < ah'.length := by have := (List.getElem?_eq_some_iff.mp hj').1; rw [S'.len] at this; exact this
                have eo' : ah'[j + 1]? = some ah'[j + 1] := List.getElem?_eq_getElem this
                have r' : (ah'[j + 1]).isRo = false := by
                  cases q : (ah'[j + 1]).isRo with
                  | false => rfl
                  | true => have := (S'.ro0 _ _ eo').mp q; omega
                have := S'.nd m (j + 1) a o _ ea hj' eo eo' hr r'
                omega
              have at' : a ∈ μ'.tail := by
                obtain ⟨k, rfl⟩ : ∃ k, m = k + 1 := ⟨m - 1, by have := S.pos; omega⟩
                exact List.mem_of_getElem? (i := k) (by rw [List.getElem?_tail]; exact ea)
              have h0 : H a = none := (e.new a at').resolve_left ha
              have ok := (S'.ok m a o ea eo).cut (n := ah.length) hb
              rw [← S.len, e.take] at ok
              have ok2 : OOk K (μ ++ [a]) H' a o := ok.mono (List.prefix_append _ _) TExt.refl (fun _ => rfl) fun _ _ z => z
              refine hp (μ ++ [a]) (.ref a) H' (e.back.adopt h0 S.mpos) ((S.old e S' hs).adopt hr ha ok2) ?_
              show Rep K (μ ++ [a]) H' (.ref ah.length) (.ref a)
              simp only [Rep]
              exact ⟨a, by rw [← S.len]; simp, rfl⟩
            · exact all hp
          · exact all hp
        · exact all hp
    · exact all hp
theorem finX_run {Wx : Value → Option Addr → Hp → Prop} {Q : VK} {ah ah' : AH} {c : Str} {fs : Option (List (Str × D))} {od : Option Addr} (S : Sim K μ H ah) (e : Ext K μ H μ' H') (S' : Sim K μ' H' ah') (r : ExnOk K μ' H' fs od) (hp : Post K (RD K) Wx μ H Q (.exn c fs (finX ah fs ah'))) : Wx (.ref (gA K c)) od H' := by
  unfold finX at hp
  have all : Post K (RD K) Wx μ H Q (.exn c fs ah') → Wx (.ref (gA K c)) od H' := fun hp => hp μ' H' od e S' r
  split at hp
  · exact all hp
  · split at hp
    · rename_i hs
      refine hp μ H' od e.back (S.old e S' hs.1) ?_
      cases fs with
      | none => exact r
      | some l =>
        obtain ⟨d, fws, h1, h2, h3, h4⟩ := r
        refine ⟨d, fws, h1, h2, h3, ?_⟩
        have := Reps.cutB (n := ah.length) _ _ hs.2 h4
        rw [← S.len, e.take] at this
        exact this
    · exact all hp
end
theorem fin_same (ah : AH) (d : D) : fin ah d ah = .ok d ah := by unfold fin; rw [if_pos (Nat.le_refl _)]
theorem fin_len {ah ah' : AH} (d : D) (h : ah'.length = ah.length) : fin ah d ah' = .ok d ah' := by unfold fin; rw [if_pos (Nat.le_of_eq h)]
end HA
namespace HA
open PySem PySem.Spec PyProof.Rows L2
def fnM (n ar : Nat) (mb : SM) (ds : List D) (ah : AH) : Res D := if ds.length = ar then match mb (ds.map some ++ List.replicate (n - ds.length) none) ah with
  | .nx _ ah' => fin ah .non ah'
  | .rt d ah' => fin ah d ah'
  | .exn c fs _ ah' => .exn c fs (finX ah fs ah')
  | _ => .stuck else .stuck
def fnR (n ar : Nat) (mb : SM) (ds : List D) (ah : AH) : Res D := if ds.length = ar then match mb (ds.map some ++ List.replicate (n - ds.length) none) ah with
  | .nx _ ah' => .ok .non ah'
  | .rt d ah' => .ok d ah'
  | .exn c fs _ ah' => .exn c fs ah'
  | _ => .stuck else .stuck
structure FnG (P : Program) (w : World) (K : PySem.W.Frag) (mg : Str → Option Value) (base : Heap) (k : Nat) (f : Addr) (fd : FuncData) (ps : List Str) (m : List D → AH → Res D) : Prop where
  run : ∀ (A : Around) (lo : List PySem.Env) (s : Shared) (H : Hp) (args : Args) (us : List Value) (vs : List V) (Q : VK) (E : XK) (μ : List Addr) (ds : List D) (ah : AH), Rm k A → Env0 P w K mg base A lo s H → BindsTo s fd args (ps.zip us) → Vals vs us → vs.length = ps.length →
    Sim K μ H ah → Reps K μ H ds vs → Post K (RD K) (fun c d H' => E c d H') μ H Q (m ds ah) → codeAny (model P w) A (.call (.ref f) args) (CR (CXf K P w) lo P w H s Q E) s
section
variable {P : Program} {w : World} {K : PySem.W.Frag} {mg : Str → Option Value} {base : Heap}
theorem FnG.mono {j k : Nat} {f : Addr} {fd : FuncData} {ps : List Str} {m : List D → AH → Res D} (F : FnG P w K mg base j f fd ps m) (h : j ≤ k) : FnG P w K mg base k f fd ps m :=
  ⟨fun A lo s H args us vs Q E μ ds ah hr => F.run A lo s H args us vs Q E μ ds ah (hr.mono h)⟩
theorem rm_deeper {k : Nat} {A : Around} (r : Rm (k + 1) A) (env : PySem.Env) : Rm k (A.deeper env) := ⟨r.room.deeper env, r.gd⟩
theorem fnG_R {x qual : Str} {st : Stmt} {f : Addr} {fd : FuncData} {N ps : List Str} {k : Nat} {mb : SM} (F : Fun K x qual st f fd) (S : FnScope N ps (defScope st))
    (body : ∀ (cdv : Value) (A : Around) (lo : List PySem.Env) (s : Shared) (H : Hp) (E : XK), Rm k (A.deeper (envOfC qual (defScope st) s.heap.objs.size f cdv)) → PZs (cxOf (CXf K P w) P w K mg base N qual (defScope st) f cdv A lo s H E) (fun c d _ H' => E c d H') (defBody st) mb) :
    FnG P w K mg base (k + 1) f fd ps (fnR N.length ps.length mb) := by
  obtain ⟨oc, od, kV, doc, pm, an, cdv, ct, osl, rfl, lk, hcd⟩ := F.ex
  refine ⟨fun A lo s H args us vs Q E μ ds ah hr e0 hb rv hl hS rd hp => ?_⟩
  have KX : K.In s.heap := e0.mod.kin.keeps fun b o e => (e0.bs b o e).1
  have nl : s.heap.NoLimit := e0.mod.nolimit.keeps fun b o e => (e0.bs b o e).1
  have par : ∀ y ∈ ps.zip us, (defScope st).names.lookup y.1 = some .local ∨ ((defScope st).names.lookup y.1 = some .cell ∧ ((cellsFrom (s.heap.objs.size + 1) (defScope st).names []).lookup y.1).isSome = true) := fun p hp => by
    rcases S.par p.1 (List.of_mem_zip hp).1 with q | q
    · exact .inl q
    · exact .inr ⟨q, PySem.W.cellsFrom_some _ _ _ (.inl q)⟩
  refine codeAny_call_function hr.room.depth (KX _ _ lk) rfl S.co S.gen rfl (PySem.W.codeRec_of KX hcd) (hb _ _ _ _ ?_)
  refine wpAny_newFunctionEnv_cells S.kind par fun env he s1 x1 => ?_
  subst he
  refine ⟨nl.keeps x1.toInCall.keep, codeAny_func ?_⟩
  have I : Inv (cxOf (CXf K P w) P w K mg base N qual (defScope st) f cdv A lo s H E) [] (L2.start N vs) H s1 := inv_start S hr.room.hd e0 hl rv x1
  have lds : ds.length = ps.length := rd.length.trans hl
  have hpl : ps.length ≤ N.length := by
    have z := congrArg List.length S.pre
    rw [List.length_take] at z
    omega
  have eS : EnvRel K μ H (ds.map some ++ List.replicate (N.length - ds.length) none) (L2.start N vs) := by
    unfold L2.start
    refine ⟨by simp only [List.length_append, List.length_map, List.length_replicate]; rw [lds, hl], fun i d e => ?_⟩
    by_cases hi : i < ds.length
    · rw [List.getElem?_append_left (by simpa using hi), List.getElem?_map] at e
      cases q : ds[i]? with
      | none => rw [q] at e; cases e
      | some z =>
        rw [q] at e; cases e
        obtain ⟨v, ev, r⟩ := rd.get q
        exact ⟨v, by rw [List.getElem?_append_left (by rw [List.length_map, ← rd.length]; exact hi), List.getElem?_map, ev]; rfl, r⟩
    · rw [List.getElem?_append_right (by simpa using hi), List.getElem?_replicate] at e
      split at e <;> cases e
  have fin : ∀ {σ' : L2.St} {H' : Hp} {s' : Shared} {v : V} {u : Value}, Inv (cxOf (CXf K P w) P w K mg base N qual (defScope st) f cdv A lo s H E) [] σ' H' s' → RelV v u → Q v H' → CE lo P w H s Q u s' := fun {σ' H' s' v u} J r q => ⟨v, H', J.os, J.bare, J.base, J.hok, r, q⟩
  let DD : Ends := { nx := fun _ H' => Q .non H', rt := Q }
  have po : PostS K (fun c d _ H' => E c d H') DD μ H (mb (ds.map some ++ List.replicate (N.length - ds.length) none) ah) := by
    unfold fnR at hp
    rw [if_pos lds] at hp
    cases q : mb (ds.map some ++ List.replicate (N.length - ds.length) none) ah with
    | nx env' ah' => rw [q] at hp; exact fun μ' σ' H' e' s' _ => hp μ' .non H' e' s' r_non
    | rt d ah' => rw [q] at hp; exact fun μ' v H' e' s' r => hp μ' v H' e' s' r
    | bk env' ah' => rw [q] at hp; exact hp.elim
    | ct env' ah' => rw [q] at hp; exact hp.elim
    | exn c fs env' ah' => rw [q] at hp; exact fun μ' σ' H' od e' s' _ z => hp μ' H' od e' s' z
    | stuck => rw [q] at hp; exact hp.elim
  refine wpAny_mono ((body cdv A lo s H E (rm_deeper hr _)).run [] s1 (L2.start N vs) H DD I ⟨μ, _, ah, eS, hS, po⟩) (fun fl s' hs => ?_) fun e s' z => z
  cases fl with
  | ret u => obtain ⟨v, σ', H', J, r, q⟩ := hs; exact fin J r q
  | next => obtain ⟨σ', H', J, q⟩ := hs; exact fin (v := V.non) (u := Value.none) J rfl q
  | brk => obtain ⟨_, _, _, q⟩ := hs; exact q.elim
  | cont => obtain ⟨_, _, _, q⟩ := hs; exact q.elim
theorem fnG {x qual : Str} {st : Stmt} {f : Addr} {fd : FuncData} {N ps : List Str} {k : Nat} {mb : SM} (F : Fun K x qual st f fd) (S : FnScope N ps (defScope st))
    (body : ∀ (cdv : Value) (A : Around) (lo : List PySem.Env) (s : Shared) (H : Hp) (E : XK), Rm k (A.deeper (envOfC qual (defScope st) s.heap.objs.size f cdv)) → PZs (cxOf (CXf K P w) P w K mg base N qual (defScope st) f cdv A lo s H E) (fun c d _ H' => E c d H') (defBody st) mb) :
    FnG P w K mg base (k + 1) f fd ps (fnM N.length ps.length mb) := by
  have G := fnG_R F S body
  refine ⟨fun A lo s H args us vs Q E μ ds ah hr e0 hb rv hl hS rd hp => G.run A lo s H args us vs Q E μ ds ah hr e0 hb rv hl hS rd ?_⟩
  unfold fnM at hp
  unfold fnR
  split at hp
  · rename_i h
    rw [if_pos h]
    cases q : mb (ds.map some ++ List.replicate (N.length - ds.length) none) ah with
    | nx env' ah' => rw [q] at hp; exact fun μ' v H' e' s' r => fin_run hS e' s' r hp
    | rt d ah' => rw [q] at hp; exact fun μ' v H' e' s' r => fin_run hS e' s' r hp
    | bk env' ah' => rw [q] at hp; exact hp.elim
    | ct env' ah' => rw [q] at hp; exact hp.elim
    | exn c fs env' ah' => rw [q] at hp; exact fun μ' H' od e' s' z => finX_run hS e' s' z hp
    | stuck => rw [q] at hp; exact hp.elim
  · exact hp.elim
end
section
variable {X : Cx} {W : WX} {k : Nat} {f : Addr} {fd : FuncData} {ps ks : List Str} {m : List D → AH → Res D} {x : Str} {p pos : Pos} {e : Expr} {es : List Expr} {ml mk : EM (List D)} {kws : List Keyword}
theorem run_G {pins : List (Addr × Obj)} {σ : L2.St} {H : Hp} {s : Shared} {Q : VK} {us : List Value} {vs : List V} {args : Args} {μ : List Addr} {ds : List D} {ah : AH} (F : FnG X.prog X.w X.K X.mg X.base k f fd ps m) (hr : Rm k X.A) (tk : Takes X W) (I : Inv X pins σ H s)
    (hb : BindsTo s fd args (ps.zip us)) (hl : vs.length = ps.length) (r : Vals vs us) (S : Sim X.K μ H ah) (rd : Reps X.K μ H ds vs) (hp : Post X.K (RD X.K) (fun c d H' => W c d σ H') μ H Q (m ds ah)) :
    codeAny (model X.prog X.w) X.A (.call (.ref f) args) (fun r s' => match r with
      | .ok (.ret u) => EP X pins σ Q u s'
      | .ok _ => False
      | .error e => X.xe e s') s := by
  refine codeAny_mono (F.run X.A X.stack s H args us vs Q (WE W σ) μ ds ah hr I.env0 hb r hl S rd hp) fun r s' hq => ?_
  cases r with
  | error e => exact passF tk σ pins H s e s' I hq
  | ok fl =>
    cases fl with
    | ret u => exact I.after hq
    | next => exact hq
    | brk => exact hq
    | cont => exact hq
theorem call_G {pins : List (Addr × Obj)} {σ : L2.St} {H : Hp} {s : Shared} {Q : VK} {us : List Value} {vs : List V} {kw : List (Str × Value)} {us' : List Value} {μ : List Addr} {ds : List D} {ah : AH} (F : FnG X.prog X.w X.K X.mg X.base k f fd ps m) (hr : Rm k X.A) (tk : Takes X W) (I : Inv X pins σ H s)
    (hb : BindsTo s fd ⟨us', kw⟩ (ps.zip us)) (hl : vs.length = ps.length) (r : Vals vs us) (S : Sim X.K μ H ah) (rd : Reps X.K μ H ds vs) (hp : Post X.K (RD X.K) (fun c d H' => W c d σ H') μ H Q (m ds ah)) :
    wpAny (model X.prog X.w) X.A (call (.ref f) us' kw) (EP X pins σ Q) X.xe s := by
  refine wpAny_call (codeAny_mono (run_G F hr tk I hb hl r S rd hp) fun r s' hq => ?_)
  cases r with
  | error e => exact hq
  | ok fl =>
    cases fl with
    | ret u => exact hq
    | next => exact hq.elim
    | brk => exact hq.elim
    | cont => exact hq.elim
def Many (n : Nat) (ml : EM (List D)) : Prop := ∀ env ah ds ah', ml env ah = .ok ds ah' → ds.length = n
theorem many_nil : Many 0 aNil := fun env ah ds ah' h => by cases h; rfl
theorem many_cons {n : Nat} {me : EM D} (h : Many n ml) : Many (n + 1) (aCons me ml) := fun env ah ds ah' e => by
  unfold aCons at e
  cases q : me env ah with
  | ok x a1 =>
    rw [q] at e
    cases q2 : ml env a1 with
    | ok xs a2 =>
      rw [Res.bind_ok, q2, Res.bind_ok] at e
      cases e
      rw [List.length_cons, h _ _ _ _ q2]
    | exn c fs a3 => rw [Res.bind_ok, q2] at e; cases e
    | stuck => rw [Res.bind_ok, q2] at e; cases e
  | exn c fs a4 => rw [q] at e; cases e
  | stuck => rw [q] at e; cases e
theorem Post.many {K : PySem.W.Frag} {Wx : Value → Option Addr → Hp → Prop} {μ : List Addr} {H : Hp} {Q : List V → Hp → Prop} {env : Env} {ah : AH} {n : Nat} (hm : Many n ml) (h : Post K (RA K) Wx μ H (fun vs H' => vs.length = n → Q vs H') (ml env ah)) : Post K (RA K) Wx μ H Q (ml env ah) := by
  cases q : ml env ah with
  | ok ds a1 =>
    rw [q] at h
    exact fun μ' vs H' e s r => h μ' vs H' e s r (by rw [← Reps.length (show Reps K μ' H' ds vs from r)]; exact hm env ah ds a1 q)
  | exn c fs a1 => rw [q] at h; exact h
  | stuck => rw [q] at h; exact h
theorem pd_call (F : FnG X.prog X.w X.K X.mg X.base k f fd ps m) (hr : Rm k X.A) (hg : Gl X x) (hm : X.mg x = some (.ref f)) (hk : PySem.W.keepIn X.K (.ref f) = true) (hb : Binds X.K fd ps []) (tk : Takes X W) (ha : PAs X W (e :: es) ml) (hn : Many ps.length ml)
    (hdb : (x == ("__debug__" : Str)) = false := by decide) (he : starEach (e :: es) X.env = (false, eval e X.env) :: starEach es X.env := by rfl) (hpl : (backTo pos (starEach es X.env)).any (·.1) = false := by rfl) : PD X W (.Call (.Name x p) (e :: es) [] pos) (e1 ml m) := by
  refine ⟨fun pins s σ H Q I h => ?_⟩
  obtain ⟨μ, env, ah, hE, hs, hp⟩ := h
  refine wpAny_Call_Name_kw (ld_glob I hg hm ?_ hdb)
  refine PySem.W.callWith_K (h₀ := X.base) I.ok.mod.kin hk (thn (ha.run pos pins s σ H (fun vs H1 => vs.length = ps.length ∧ ∃ μ1 ah1 ds, Sim X.K μ1 H1 ah1 ∧ Reps X.K μ1 H1 ds vs ∧ Post X.K (RD X.K) (fun c d H' => W c d σ H') μ1 H1 Q (m ds ah1)) I
    ⟨μ, env, ah, hE, hs, Post.many hn (hp.bind fun ds ah1 μ1 vs H1 e1 s1 r1 p1 hl => ⟨hl, μ1, ah1, ds, s1, r1, p1⟩)⟩) fun us s1 hz => ?_) he hpl
  obtain ⟨vs, H1, I1, r, hl, μ1, ah1, ds, s1', rd, p1⟩ := hz
  refine ⟨I1.kIn, ?_⟩
  have b := hb s1 us I1.kIn (by rw [List.append_nil, ← r.length]; exact hl)
  rw [List.append_nil] at b
  exact call_G F hr tk I1 b hl r s1' rd p1
end
end HA
namespace HA
open PySem PySem.Spec PyProof.Rows L2
abbrev LT := Sum (List D) Nat
def RLT (K : PySem.W.Frag) : Rel LT V := ⟨fun _ μ H t v => match t with
  | .inl ds => ∃ a vs, v = .ref a ∧ H a = some (.lst vs) ∧ a ∉ μ.tail ∧ Reps K μ H ds vs
  | .inr n => Rep K μ H (.ref n) v, fun _ h => h⟩
def PLT (X : Cx) (W : WX) (e : Expr) (m : EM LT) : Prop := PE X e (tG X.K (RLT X.K) W m)
def ltOf (t : LT) (ah : AH) : Option (List D) := match t with
  | .inl ds => some ds
  | .inr n => match ah[n]? with
    | some (.lst ds) => some ds
    | _ => none
theorem rlt_ext {K : PySem.W.Frag} {μ μ1 : List Addr} {H H1 : Hp} {t : LT} {v : V} {H₀ H₁ : Hp} (h : (RLT K).r H₀ μ H t v) (e : Ext K μ H μ1 H1) : (RLT K).r H₁ μ1 H1 t v := by
  cases t with
  | inl ds =>
    obtain ⟨a, vs, ev, ha, hm, r⟩ := h
    refine ⟨a, vs, ev, e.keep a _ hm ha, fun z => ?_, r.ext e⟩
    rcases e.new a z with w | w
    · exact hm w
    · rw [ha] at w; cases w
  | inr n => exact Rep.ext (show Rep K μ H (.ref n) v from h) e
theorem rlt_at {K : PySem.W.Frag} {μ : List Addr} {H : Hp} {ah : AH} {t : LT} {v : V} {ds : List D} {H₀ : Hp} (S : Sim K μ H ah) (h : (RLT K).r H₀ μ H t v) (e : ltOf t ah = some ds) : ∃ a vs, v = .ref a ∧ H a = some (.lst vs) ∧ Reps K μ H ds vs := by
  cases t with
  | inl xs =>
    obtain ⟨a, vs, ev, ha, hm, r⟩ := h
    cases e
    exact ⟨a, vs, ev, ha, r⟩
  | inr n =>
    obtain ⟨a, ea, rfl⟩ := d_ref (show Rep K μ H (.ref n) v from h)
    unfold ltOf at e
    dsimp only at e
    split at e
    · rename_i xs q
      cases e
      obtain ⟨vs, h1, r⟩ := S.ok n a _ ea q
      exact ⟨a, vs, rfl, h1, r⟩
    · cases e
section
variable {X : Cx} {W : WX} {k : Nat} {e : Expr} {es : List Expr} {m : EM D} {ml : EM (List D)} {pos : Pos}
def tNew (m : EM (List D)) : EM LT := e1 m fun ds ah => .ok (.inl ds) ah
def tOur (m : EM D) : EM LT := e1 m fun d ah => match d with
  | .ref n => .ok (.inr n) ah
  | _ => .stuck
theorem plt_l (h : PL X W e ml) : PLT X W e (tNew ml) := by
  refine PE.weak h fun σ H Q ⟨μ, env, ah, he, hs, hp⟩ => ?_
  refine ⟨μ, env, ah, he, hs, hp.bind fun ds ah1 μ1 x H1 e1 s1 r1 p1 => ?_⟩
  obtain ⟨a, vs, rfl, _, ha, hm, r⟩ := r1
  exact Post.ok1 (R := RLT X.K) p1 s1 ⟨a, vs, rfl, ha, hm, r⟩
theorem plt_d (h : PD X W e m) : PLT X W e (tOur m) := by
  refine PE.weak h fun σ H Q ⟨μ, env, ah, he, hs, hp⟩ => ?_
  refine ⟨μ, env, ah, he, hs, hp.bind fun d ah1 μ1 x H1 e1 s1 r1 p1 => ?_⟩
  cases d with
  | ref n => exact Post.ok1 (R := RLT X.K) p1 s1 r1
  | _ => exact p1.elim
def lCat (x y : LT) (ah : AH) : Res (List D) := match ltOf x ah, ltOf y ah with
  | some xs, some ys => if xs.length + ys.length ≤ line then .ok (xs ++ ys) ah else .stuck
  | _, _ => .stuck
theorem pl_cat {a b : Expr} {ma mb : EM LT} (ha : PLT X W a ma) (hb : PLT X W b mb) : PL X W (.BinOp a .Add b pos) (e2 ma mb lCat) := by
  refine PE.weak (pe_op op_cat ha hb) fun σ H Q ⟨μ, env, ah, he, hs, hp⟩ => ?_
  refine ⟨μ, env, ah, he, hs, hp.bind0 fun t ah1 μ1 x H1 e1 s1 r1 p1 => ?_⟩
  have p1 := Post.ext e1 p1
  refine tG_next he e1 s1 (p1.bind fun u ah2 μ2 y H2 e2 s2 r2 p2 => ?_)
  unfold lCat at p2
  split at p2
  · rename_i xs ys q1 q2
    split at p2
    · rename_i hl
      obtain ⟨a, vs, rfl, hA, rA⟩ := rlt_at s2 (rlt_ext (H₁ := H) r1 e2) q1
      obtain ⟨b, ws, rfl, hB, rB⟩ := rlt_at s2 r2 q2
      exact ⟨a, b, vs, ws, rfl, rfl, hA, hB, line_le (by rw [← rA.length, ← rB.length]; exact hl), fun p np => Post.newL p2 s2 (rA.append rB) np⟩
    · exact p2.elim
  · exact p2.elim
def lRep (x : LT) (y : D) (ah : AH) : Res (List D) := match ltOf x ah, y with
  | some xs, .int k => if -(2 ^ 63) ≤ k ∧ k < 2 ^ 63 ∧ xs.length * k.toNat ≤ line then .ok (List.replicate k.toNat xs).flatten ah else .stuck
  | _, _ => .stuck
def lRepr (ds : List D) (ah : AH) : Res D := match optAll (toP ah 62) ds with
  | some ps => if PyData.showable (.list ps) = true ∧ (PyData.shown (.list ps)).length ≤ line ∧ PyData.depth (.list ps) ≤ 63 then .ok (.str (PyData.shown (.list ps))) ah else .stuck
  | none => .stuck
def lNil (neg : Bool) (ds : List D) (ah : AH) : Res Bool := .ok (if ds.isEmpty = true then !neg else neg) ah
theorem op_nil (hu : X.A.units + 64 < cLine) (neg : Bool) : OpR X (compareOp (if neg then .NotEq else .Eq)) (fun x y H Q => ∃ a b vs, x = .ref a ∧ y = .ref b ∧ SqL X.K H a vs ∧ H b = some (.lst []) ∧
    Q (.bl (if vs.isEmpty = true then !neg else neg)) H) := by
  intro pins s σ H x y v u Q I rx ry h
  obtain ⟨a, b, vs, rfl, rfl, q, hb, hq⟩ := h
  cases rx
  cases ry
  obtain ⟨its, rv, ⟨o, m, e1, e2, _, e3⟩, _⟩ := I.list q
  obtain ⟨its2, rv2, ⟨o2, m2, f1, f2, _, f3⟩, _⟩ := I.list (SqL.of hb)
  have l1 : vs.length = its.length := rv.length
  have l2 : 0 = its2.length := rv2.length
  have hl : s.heap.IsList _ its.toArray := ⟨o, e1, e2, m, e3⟩
  have hl2 : s.heap.IsList _ its2.toArray := ⟨o2, f1, f2, m2, f3⟩
  have hu' : X.A.units < cLine := by omega
  by_cases c : vs = []
  · subst c
    have l1 : 0 = its.length := l1
    have z : its.toArray.size = its2.toArray.size := by rw [List.size_toArray, List.size_toArray]; omega
    have z0 : its.toArray.size = 0 := by rw [List.size_toArray]; omega
    cases neg with
    | false => exact SeqAt.eq_listAt (e := fun _ => true) hl hl2 z hu' (fun j h1 => absurd h1 (by omega)) (by rw [z0]; exact ⟨.bl true, H, I, rfl, hq⟩)
    | true => exact SeqAt.RcNeAt.lists (e := fun _ => true) hl hl2 z hu' (fun j h1 => absurd h1 (by omega)) _ _ _ _ (by rw [z0]; exact ⟨.bl false, H, I, rfl, hq⟩)
  · have z : (its.toArray.size != its2.toArray.size) = true := by
      have := List.length_pos_iff.mpr c
      rw [List.size_toArray, List.size_toArray, bne_iff_ne]
      omega
    have em : vs.isEmpty = false := by cases vs with
      | nil => exact absurd rfl c
      | cons _ _ => rfl
    rw [em] at hq
    cases neg with
    | false => exact SeqAt.eq_list_lengthsAt hl hl2 z hu' ⟨.bl false, H, I, rfl, hq⟩
    | true => exact SeqAt.RcNeAt.lists_lengths hl hl2 z hu' _ _ _ _ ⟨.bl true, H, I, rfl, hq⟩
def bNil (neg : Bool) (m : EM (List D)) : EM Bool := e1 m (lNil neg)
theorem nil_step {neg : Bool} {σ : L2.St} {H : Hp} {Q : V → Hp → Prop} {γ : Type} {R : Rel Bool γ} {Q' : γ → Hp → Prop} {c : γ → V} (hR : ∀ H₀ μ H b g, R.r H₀ μ H b g → True) (hu : X.A.units + 64 < cLine) (h : tG X.K RBV W (bNil neg ml) σ H Q) :
    tOp (fun x y H Q => ∃ a b vs, x = .ref a ∧ y = .ref b ∧ SqL X.K H a vs ∧ H b = some (.lst []) ∧
      Q (.bl (if vs.isEmpty = true then !neg else neg)) H) (tG X.K (RM X.K) W ml) (tLst tNil) σ H Q := by
  obtain ⟨μ, env, ah, he, hs, hp⟩ := h
  refine ⟨μ, env, ah, he, hs, hp.bind fun ds ah1 μ1 x H1 e1 s1 r1 p1 => ?_⟩
  obtain ⟨a, vs, rfl, q, r⟩ := r1
  refine ⟨by decide, fun b nb => ?_⟩
  have z : lNil neg ds ah1 = .ok (if ds.isEmpty = true then !neg else neg) ah1 := rfl
  rw [z] at p1
  have em : ds.isEmpty = vs.isEmpty := by
    have := r.length
    cases ds <;> cases vs <;> simp at this ⊢
  have ex : Ext X.K μ1 H1 μ1 (upd H1 b (.lst [])) := Ext.other nb
  have q2 : SqL X.K (upd H1 b (.lst [])) a vs := by
    rcases q with (q | ⟨o, q⟩) | q
    · exact .inl (.inl (by rw [upd_ne (ne_of_none q nb)]; exact q))
    · exact .inl (.inr ⟨o, by rw [upd_ne (ne_of_none q nb)]; exact q⟩)
    · exact .inr q
  rw [em] at p1
  exact ⟨a, b, vs, rfl, rfl, q2, upd_same, p1 μ1 _ _ ex (s1.other nb) rfl⟩
theorem pb_notNil {j1 : Pos} (hr : Rm k X.A) (ha : PM X W e ml) : PB X W (.Compare e [.NotEq] [.List [] j1] pos) (bNil true ml) := by
  refine PT.weak (pt_cmpR (op_nil hr.u64 true) ha (pe_lst pa_nil) (nomark _)) fun σ H Q ⟨μ, env, ah, he, hs, hp⟩ => ?_
  exact nil_step (R := RB) (c := V.bl) (Q' := Q) (fun _ _ _ _ _ _ => trivial) hr.u64 ⟨μ, env, ah, he, hs, Post.bb hp⟩
end
end HA
namespace HA
open PySem PySem.Spec PyProof.Rows L2
section
variable {X : Cx} {W : WX} {k : Nat} {e : Expr} {es : List Expr} {m : EM D} {ml : EM (List D)} {pos : Pos}
def MtD (X : Cx) (id : String) (f : D → List D → AH → Res D) : Prop := ∀ W, MtR X id (fun x vs H Q => ∃ μ ah d ds, Sim X.K μ H ah ∧ Rep X.K μ H d x ∧ Reps X.K μ H ds vs ∧ Post X.K (RD X.K) W μ H Q (f d ds ah))
theorem MtR.imp {id : String} {r r' : V → List V → Hp → VK → Prop} (h : MtR X id r) (k : ∀ x vs H Q, r' x vs H Q → r x vs H Q) : MtR X id r' := fun pins s σ H x xs v us Q I rx rv q => h pins s σ H x xs v us Q I rx rv (k x xs H Q q)
theorem put_lst {K : PySem.W.Frag} {Wx : Value → Option Addr → Hp → Prop} {μ : List Addr} {H : Hp} {Q : VK} {ah : AH} {n : Nat} {a : Addr} {xs ys : List D} {ws : List V} {d : D} {v : V} (S : Sim K μ H ah) (ea : μ[n]? = some a) (q : ah[n]? = some (.lst xs)) (r : Reps K μ H ys ws) (rd : Rep K μ H d v)
    (hp : Post K (RD K) Wx μ H Q (.ok d (ah.set n (.lst ys)))) : Q v (upd H a (.lst ws)) := by
  have hn : n ≠ 0 := fun z => by
    have := (S.ro0 n _ q).mpr z
    cases this
  have mu := (S.ok n a _ ea q).there rfl
  refine hp μ v _ (Ext.put ea hn mu) (S.put ea q rfl rfl fun ht => ⟨ws, upd_same, Reps.mono (List.prefix_refl _) ht _ _ r⟩) (Rep.ext rd (Ext.put ea hn mu))
theorem r_non' {K : PySem.W.Frag} {μ : List Addr} {H : Hp} : Rep K μ H .non .non := by simp only [Rep]
def mAppend (d : D) (ds : List D) (ah : AH) : Res D := match d, ds with
  | .ref n, [y] => match ah[n]? with
    | some (.lst xs) => if xs.length < line then .ok .non (ah.set n (.lst (xs ++ [y]))) else .stuck
    | _ => .stuck
  | _, _ => .stuck
theorem md_append : MtD X "list.append" mAppend := fun W => by
  refine MtR.imp mt_append fun x vs H Q ⟨μ, ah, d, ds, S, r1, r2, hp⟩ => ?_
  unfold mAppend at hp
  split at hp
  · rename_i n y
    obtain ⟨a, ea, rfl⟩ := d_ref r1
    obtain ⟨w, rfl, ry⟩ := reps1 r2
    split at hp
    · rename_i xs q
      split at hp
      · rename_i hl
        obtain ⟨vs, h1, r⟩ := S.ok n a _ ea q
        exact ⟨a, vs, w, rfl, rfl, h1, Nat.lt_of_lt_of_le (by rw [← r.length]; exact hl) (line_le (Nat.le_refl _)), put_lst S ea q (r.append (Reps.cons ry Reps.nil)) r_non' hp⟩
      · exact hp.elim
    · exact hp.elim
  · exact hp.elim
def mPop (d : D) (ds : List D) (ah : AH) : Res D := match d, ds with
  | .ref n, [] => match ah[n]? with
    | some (.lst xs) => match xs[xs.length - 1]? with
      | some y => .ok y (ah.set n (.lst xs.dropLast))
      | none => .stuck
    | _ => .stuck
  | .ref n, [.int i] => match ah[n]? with
    | some (.lst xs) => if -(2 ^ 63) ≤ i ∧ i < 2 ^ 63 then match seqIndex? i xs.length with
      | some j => match xs[j]? with
        | some y => .ok y (ah.set n (.lst (xs.eraseIdx j)))
        | none => .stuck
      | none => .stuck else .stuck
    | _ => .stuck
  | _, _ => .stuck
theorem MtR.or {id : String} {r r' : V → List V → Hp → VK → Prop} (h : MtR X id r) (h' : MtR X id r') : MtR X id (fun x vs H Q => r x vs H Q ∨ r' x vs H Q) := fun pins s σ H x xs v us Q I rx rv q => q.elim (h pins s σ H x xs v us Q I rx rv) (h' pins s σ H x xs v us Q I rx rv)
theorem md_pop : MtD X "list.pop" mPop := fun W => by
  refine MtR.imp (MtR.or mt_pop mt_popAt) fun x vs H Q ⟨μ, ah, d, ds, S, r1, r2, hp⟩ => ?_
  unfold mPop at hp
  split at hp
  · rename_i n
    obtain ⟨a, ea, rfl⟩ := d_ref r1
    simp only [Reps] at r2
    subst r2
    split at hp
    · rename_i xs q
      split at hp
      · rename_i y ey
        obtain ⟨vs, h1, r⟩ := S.ok n a _ ea q
        obtain ⟨w, ew, rw'⟩ := r.get ey
        exact .inl ⟨a, vs, w, rfl, rfl, h1, by rw [← r.length]; exact ew, put_lst S ea q r.dropLast rw' hp⟩
      · exact hp.elim
    · exact hp.elim
  · rename_i n i
    obtain ⟨a, ea, rfl⟩ := d_ref r1
    obtain ⟨w, rfl, ry⟩ := reps1 r2
    rw [d_int ry]
    split at hp
    · rename_i xs q
      split at hp
      · rename_i hl
        split at hp
        · rename_i j ej
          split at hp
          · rename_i y ey
            obtain ⟨vs, h1, r⟩ := S.ok n a _ ea q
            obtain ⟨u, eu, ru⟩ := r.get ey
            exact .inr ⟨a, vs, i, j, u, rfl, rfl, h1, hl.1, hl.2, by rw [← r.length]; exact ej, eu, put_lst S ea q (r.eraseIdx j) ru hp⟩
          · exact hp.elim
        · exact hp.elim
      · exact hp.elim
    · exact hp.elim
  · exact hp.elim
def mInsert (d : D) (ds : List D) (ah : AH) : Res D := match d, ds with
  | .ref n, [.int i, y] => match ah[n]? with
    | some (.lst xs) => if xs.length < line ∧ 0 ≤ i ∧ i < 2 ^ 63 then .ok .non (ah.set n (.lst (xs.take i.toNat ++ [y] ++ xs.drop i.toNat))) else .stuck
    | _ => .stuck
  | _, _ => .stuck
theorem list_ty {K : PySem.W.Frag} {μ : List Addr} {H : Hp} {ah : AH} {n : Nat} {v : V} {xs : List D} (S : Sim K μ H ah) (r : Rep K μ H (.ref n) v) (e : listAt ah n = some xs) : tyV K "list" v H := by
  obtain ⟨a, ea, rfl⟩ := d_ref r
  obtain ⟨b, vs, eb, q, _⟩ := S.list e
  rw [ea] at eb; cases eb
  exact .inl ⟨rfl, vs, q⟩
def isList (d : D) (ah : AH) : Bool := match d with
  | .ref n => (listAt ah n).isSome
  | _ => false
def eMt (mo : EM D) (ml : EM (List D)) (f : D → List D → AH → Res D) : EM D := fun env ah => (mo env ah).bind fun d ah1 => if isList d ah1 = true then (ml env ah1).bind fun ds ah2 => f d ds ah2 else .stuck
variable {o : Expr} {mo : EM D} {name : Str} {apos cpos : Pos} {id : String} {f : D → List D → AH → Res D}
theorem pe_bmσ {T : String} {r : L2.St → V → List V → Hp → VK → Prop} {to : TE} {t : TA} (pa : PlainAttrs T) (slot : Slot T name id) (hty : typeOf (.builtin id) = pure (.type "method_descriptor")) (hm : ∀ σ, MtR X id (r σ)) (ho : PE X o to) (ha : PA X (e :: es) t)
    (hbase : attributeBase o name X.env (eval o X.env) = eval o X.env := by rfl)
    (hfew : ((backTo cpos (starEach (e :: es) X.env)).all (fun x => !x.1) && (backToKw cpos (keywordEach [] X.env)).all (fun x => x.1.isSome) && decide ((e :: es).length + ([] : List Keyword).length + (if ([] : List Keyword).isEmpty then 0 else 1) < 30)) = true := by rfl)
    (hline : (apos.endLine == cpos.line) = true := by rfl) (hs : starEach (e :: es) X.env = (false, eval e X.env) :: starEach es X.env := by rfl) (hplain : (backTo cpos (starEach es X.env)).any (·.1) = false := by rfl) :
    PE X (.Call (.Attribute o name apos) (e :: es) [] cpos) (fun σ H Q => tBM X.K T (r σ) to t σ H Q) :=
  ⟨fun pins s σ H Q I h => (pe_bm pa slot hty (hm σ) ho ha hbase hfew hline hs hplain).run pins s σ H Q I h⟩
theorem pe_bm0σ {T : String} {r : L2.St → V → List V → Hp → VK → Prop} {to : TE} (pa : PlainAttrs T) (slot : Slot T name id) (hty : typeOf (.builtin id) = pure (.type "method_descriptor")) (hm : ∀ σ, MtR X id (r σ)) (ho : PE X o to)
    (hbase : attributeBase o name X.env (eval o X.env) = eval o X.env := by rfl) (hline : (apos.endLine == cpos.line) = true := by rfl) : PE X (.Call (.Attribute o name apos) [] [] cpos) (fun σ H Q => tBM0 X.K T (r σ) to σ H Q) :=
  ⟨fun pins s σ H Q I h => (pe_bm0 pa slot hty (hm σ) ho hbase hline).run pins s σ H Q I h⟩
theorem pd_ml (pa : PlainAttrs "list") (slot : Slot "list" name id) (hty : typeOf (.builtin id) = pure (.type "method_descriptor")) (hm : MtD X id f) (ho : PD X W o mo) (ha : PAs X W (e :: es) ml)
    (hbase : attributeBase o name X.env (eval o X.env) = eval o X.env := by rfl)
    (hfew : ((backTo cpos (starEach (e :: es) X.env)).all (fun x => !x.1) && (backToKw cpos (keywordEach [] X.env)).all (fun x => x.1.isSome) && decide ((e :: es).length + ([] : List Keyword).length + (if ([] : List Keyword).isEmpty then 0 else 1) < 30)) = true := by rfl)
    (hline : (apos.endLine == cpos.line) = true := by rfl) (hs : starEach (e :: es) X.env = (false, eval e X.env) :: starEach es X.env := by rfl) (hplain : (backTo cpos (starEach es X.env)).any (·.1) = false := by rfl) :
    PD X W (.Call (.Attribute o name apos) (e :: es) [] cpos) (eMt mo ml f) := by
  refine PE.weak (pe_bmσ pa slot hty (fun σ => hm (fun c d H' => W c d σ H')) ho ha hbase hfew hline hs hplain) fun σ H Q ⟨μ, env, ah, he, hs, hp⟩ => ?_
  refine ⟨μ, env, ah, he, hs, hp.bind fun d ah1 μ1 x H1 e1 s1 r1 p1 => ?_⟩
  split at p1
  · rename_i hi
    have ty : tyV X.K "list" x H1 := by
      cases d with
      | ref n =>
        unfold isList at hi
        dsimp only at hi
        cases q : listAt ah1 n with
        | none => rw [q] at hi; cases hi
        | some xs => exact list_ty s1 r1 q
      | _ => cases hi
    refine ⟨ty, tG_next he e1 s1 (p1.bind fun ds ah2 μ2 vs H2 e2 s2 r2 p2 => ?_)⟩
    exact ⟨μ2, ah2, d, ds, s2, Rep.ext r1 e2, r2, p2⟩
  · exact p1.elim
theorem pd_ml0 (pa : PlainAttrs "list") (slot : Slot "list" name id) (hty : typeOf (.builtin id) = pure (.type "method_descriptor")) (hm : MtD X id f) (ho : PD X W o mo)
    (hbase : attributeBase o name X.env (eval o X.env) = eval o X.env := by rfl) (hline : (apos.endLine == cpos.line) = true := by rfl) : PD X W (.Call (.Attribute o name apos) [] [] cpos) (eMt mo aNil f) := by
  refine PE.weak (pe_bm0σ pa slot hty (fun σ => hm (fun c d H' => W c d σ H')) ho hbase hline) fun σ H Q ⟨μ, env, ah, he, hs, hp⟩ => ?_
  refine ⟨μ, env, ah, he, hs, hp.bind fun d ah1 μ1 x H1 e1 s1 r1 p1 => ?_⟩
  split at p1
  · rename_i hi
    have ty : tyV X.K "list" x H1 := by
      cases d with
      | ref n =>
        unfold isList at hi
        dsimp only at hi
        cases q : listAt ah1 n with
        | none => rw [q] at hi; cases hi
        | some xs => exact list_ty s1 r1 q
      | _ => cases hi
    exact ⟨ty, μ1, ah1, d, [], s1, r1, Reps.nil, p1⟩
  · exact p1.elim
def oGet (d kd : D) (ah : AH) : Res D := match d, dKey kd with
  | .ref n, some kk => match ah[n]? with
    | some (.dK kvs) => match valD kvs kk with
      | some v => .ok v ah
      | none => .stuck
    | _ => .stuck
  | _, _ => .stuck
theorem val_get {K : PySem.W.Frag} {μ : List Addr} {H : Hp} {κ : Type} [DecidableEq κ] : ∀ {kvs : List (κ × D)} {kws : List (κ × V)} {kk : κ}, kvs.map (·.1) = kws.map (·.1) → Reps K μ H (kvs.map (·.2)) (kws.map (·.2)) → match valD kvs kk with
    | some d => ∃ v, valV kws kk = some v ∧ Rep K μ H d v
    | none => valV kws kk = none
  | [], [], kk, _, _ => rfl
  | [], _ :: _, _, h, _ => by simp at h
  | _ :: _, [], _, h, _ => by simp at h
  | (a, d) :: kvs, (b, v) :: kws, kk, h, r => by
    simp only [List.map_cons, List.cons.injEq] at h
    simp only [List.map_cons, Reps] at r
    obtain ⟨w, ws, e, r1, r2⟩ := r
    cases e
    obtain ⟨rfl, h2⟩ := h
    by_cases hk : a = kk
    · subst hk
      simp [valD, valV, r1]
    · have ih := val_get (kk := kk) h2 r2
      have e1 : valD ((a, d) :: kvs) kk = valD kvs kk := by simp [valD, hk]
      have e2 : valV ((a, v) :: kws) kk = valV kws kk := by simp [valV, hk]
      rw [e1, e2]; exact ih
def putD {κ : Type} [DecidableEq κ] (kvs : List (κ × D)) (kk : κ) (v : D) : List (κ × D) := if (kvs.any fun kv => decide (kv.1 = kk)) = true then kvs.map (fun kv => if kv.1 = kk then (kv.1, v) else kv) else kvs ++ [(kk, v)]
theorem put_rel {K : PySem.W.Frag} {μ : List Addr} {H : Hp} {κ : Type} [DecidableEq κ] {kvs : List (κ × D)} {kws : List (κ × V)} {kk : κ} {d : D} {v : V} (h : kvs.map (·.1) = kws.map (·.1)) (r : Reps K μ H (kvs.map (·.2)) (kws.map (·.2))) (rd : Rep K μ H d v) :
    (putD kvs kk d).map (·.1) = (putK kws kk v).map (·.1) ∧ Reps K μ H ((putD kvs kk d).map (·.2)) ((putK kws kk v).map (·.2)) := by
  have ha : (kvs.any fun kv => decide (kv.1 = kk)) = kws.any fun kv => decide (kv.1 = kk) := by
    have e1 : (kvs.any fun kv => decide (kv.1 = kk)) = (kvs.map (·.1)).any fun x => decide (x = kk) := by rw [List.any_map]; rfl
    have e2 : (kws.any fun kv => decide (kv.1 = kk)) = (kws.map (·.1)).any fun x => decide (x = kk) := by rw [List.any_map]; rfl
    rw [e1, e2, h]
  unfold putD putK
  rw [ha]
  split
  · rename_i hh
    clear ha hh
    induction kvs generalizing kws with
    | nil =>
      cases kws with
      | nil => exact ⟨rfl, Reps.nil⟩
      | cons _ _ => simp at h
    | cons p kvs ih =>
      cases kws with
      | nil => simp at h
      | cons q kws =>
        obtain ⟨a, x⟩ := p
        obtain ⟨b, y⟩ := q
        simp only [List.map_cons, List.cons.injEq] at h
        simp only [List.map_cons, Reps] at r
        obtain ⟨w, ws, e, r1, r2⟩ := r
        cases e
        obtain ⟨rfl, h2⟩ := h
        obtain ⟨i1, i2⟩ := ih h2 r2
        by_cases hk : a = kk
        · simp only [List.map_cons, if_pos hk]
          exact ⟨by rw [i1], Reps.cons rd i2⟩
        · simp only [List.map_cons, if_neg hk]
          exact ⟨by rw [i1], Reps.cons r1 i2⟩
  · simp only [List.map_append, List.map_cons, List.map_nil]
    exact ⟨by rw [h], r.append (Reps.cons rd Reps.nil)⟩
def sPut (mo mi mv : EM D) : SM := fun env ah => (mv env ah).thenS env fun v ah1 => (mo env ah1).thenS env fun d ah2 => (mi env ah2).thenS env fun kd ah3 => match d, dKey kd with
  | .ref n, some kk => match ah3[n]? with
    | some (.dK kvs) => if kvs.length < line then .nx env (ah3.set n (.dK (putD kvs kk v))) else .stuck
    | _ => .stuck
  | _, _ => .stuck
def eDnew : EM D := fun _ ah => .ok (.ref ah.length) (ah ++ [.dK []])
theorem pd_dnew : PD X W (.Dict [] [] pos) eDnew := by
  refine PE.weak pe_dnewK fun σ H Q ⟨μ, env, ah, he, hs, hp⟩ p np => ?_
  refine hp (μ ++ [p]) (.ref p) _ (Ext.ours np hs.mpos) (hs.new np rfl ⟨[], upd_same, rfl, Reps.nil⟩) ?_
  show Rep _ _ _ _ _
  simp only [Rep]
  exact ⟨p, by rw [← hs.len]; simp, rfl⟩
def dispD (kvs : List (Key × D)) : List (Key × D) := kvs.foldl (fun acc kv => putD acc kv.1 kv.2) []
def dPairs : List (EM D × EM D) → EM (List (D × D))
  | [] => fun _ ah => .ok [] ah
  | (mk, mv) :: r => fun env ah => (mk env ah).bind fun x ah1 => (mv env ah1).bind fun y ah2 => (dPairs r env ah2).bind fun ps ah3 => .ok ((x, y) :: ps) ah3
def eDisp (l : List (EM D × EM D)) : EM D := fun env ah => (dPairs l env ah).bind fun ps ah1 => match optAll (fun p => (dKey p.1).map fun kk => (kk, p.2)) ps with
  | some kvs => if kvs.length ≤ 15 then .ok (.ref ah1.length) (ah1 ++ [.dK (dispD kvs)]) else .stuck
  | none => .stuck
end
end HA
namespace HA
open PySem PySem.Spec PyProof.Rows L2
section
variable {X : Cx} {W : WX} {k : Nat} {e : Expr} {es : List Expr} {m : EM D} {ml : EM (List D)} {pos : Pos}
theorem Sim.foreignM {K : PySem.W.Frag} {μ : List Addr} {H : Hp} {ah : AH} (S : Sim K μ H ah) {p : Addr} {u : HO} (hm : p ∉ μ.tail) (hp : Mut (H p)) : Sim K μ (upd H p u) ah := by
  refine ⟨S.len, S.nd, fun n a o e1 e2 => ?_, S.pos, S.ro0⟩
  refine (S.ok n a o e1 e2).mono (List.prefix_refl _) (TExt.mut hp) (fun q => ?_) fun ob v z => ?_
  · refine upd_ne fun z => ?_
    subst z
    have hn : n ≠ 0 := fun z => by
      have := (S.ro0 n o e2).mpr z
      rw [q] at this; cases this
    obtain ⟨k, rfl⟩ : ∃ k, n = k + 1 := ⟨n - 1, by omega⟩
    exact hm (List.mem_of_getElem? (i := k) (by rw [List.getElem?_tail]; exact e1))
  · rw [upd_ne fun w => by subst w; rw [z] at hp; exact hp]; exact z
theorem Ext.foreignM {K : PySem.W.Frag} {μ μ1 : List Addr} {H H1 : Hp} {p : Addr} {u : HO} (e : Ext K μ H μ1 H1) (h0 : H p = none) (hp : Mut (H1 p)) : Ext K μ H μ1 (upd H1 p u) where
  pre := e.pre
  tup := e.tup.trans (TExt.mut hp)
  new := e.new
  keep := fun a o hm h => by
    rw [upd_ne (fun z => by subst z; rw [h0] at h; cases h)]
    exact e.keep a o hm h
  there := fun a h => e.there a (there_upd a h)
def rps (K : PySem.W.Frag) (μ : List Addr) (H : Hp) (ps : List (D × D)) (qs : List (V × V)) : Prop := Reps K μ H (ps.map (·.1)) (qs.map (·.1)) ∧ Reps K μ H (ps.map (·.2)) (qs.map (·.2))
def RPs (K : PySem.W.Frag) : Rel (List (D × D)) (List (V × V)) := ⟨fun _ μ H ps qs => rps K μ H ps qs, fun _ h => h⟩
inductive PDs (X : Cx) (W : WX) : List (Option Expr) → List Expr → List (EM D × EM D) → Prop where
  | nil : PDs X W [] [] []
  | cons {a b : Expr} {ks : List (Option Expr)} {vs : List Expr} {ma mb : EM D} {l : List (EM D × EM D)} : PD X W a ma → PD X W b mb → PDs X W ks vs l → PDs X W (some a :: ks) (b :: vs) ((ma, mb) :: l)
theorem disp_rel {K : PySem.W.Frag} {μ : List Addr} {H : Hp} : ∀ {kvs : List (Key × D)} {kws : List (Key × V)} {acc : List (Key × D)} {bcc : List (Key × V)}, kvs.map (·.1) = kws.map (·.1) → Reps K μ H (kvs.map (·.2)) (kws.map (·.2)) → acc.map (·.1) = bcc.map (·.1) → Reps K μ H (acc.map (·.2)) (bcc.map (·.2)) →
    (kvs.foldl (fun acc kv => putD acc kv.1 kv.2) acc).map (·.1) = (mergeK bcc kws).map (·.1) ∧ Reps K μ H ((kvs.foldl (fun acc kv => putD acc kv.1 kv.2) acc).map (·.2)) ((mergeK bcc kws).map (·.2))
  | [], [], acc, bcc, _, _, h, r => ⟨h, r⟩
  | [], _ :: _, _, _, h, _, _, _ => by simp at h
  | _ :: _, [], _, _, h, _, _, _ => by simp at h
  | (a, x) :: kvs, (b, y) :: kws, acc, bcc, h, r, h', r' => by
    simp only [List.map_cons, List.cons.injEq] at h
    simp only [List.map_cons, Reps] at r
    obtain ⟨w, ws, e, r1, r2⟩ := r
    cases e
    obtain ⟨rfl, h2⟩ := h
    obtain ⟨z1, z2⟩ := put_rel (kk := a) h' r' r1
    exact disp_rel (kvs := kvs) (kws := kws) h2 r2 z1 z2
structure PKs (X : Cx) (W : WX) (kws : List Keyword) (m : EM (List D)) : Prop where
  pk : PK X kws (tG X.K (RA X.K) W m)
theorem PK.weak {kws : List Keyword} {t t' : TA} (h : PK X kws t) (k : ∀ σ H Q, t' σ H Q → t σ H Q) : PK X kws t' := ⟨fun p pins s σ H Q I q => h.run p pins s σ H Q I (k σ H Q q)⟩
structure KB (K : PySem.W.Frag) (fd : FuncData) (ps ks : List Str) (n : Nat) (g : {α : Type} → List α → List α → List α) : Prop where
  to : ∀ (s : Shared) (us ws : List Value), K.In s.heap → us.length = n → ws.length = ks.length → BindsTo s fd ⟨us, ks.zip ws⟩ (ps.zip (g us ws))
  len : ∀ {α : Type} (us ws : List α), us.length = n → ws.length = ks.length → (g us ws).length = ps.length
  rel : ∀ {vs : List V} {us : List Value} {zs : List V} {ws : List Value}, vs.length = n → zs.length = ks.length → Vals vs us → Vals zs ws → Vals (g vs zs) (g us ws)
  rep : ∀ {K' : PySem.W.Frag} {μ : List Addr} {H : Hp} {ds : List D} {vs : List V} {fs : List D} {zs : List V}, ds.length = n → fs.length = ks.length → Reps K' μ H ds vs → Reps K' μ H fs zs → Reps K' μ H (g ds fs) (g vs zs)
variable {f : Addr} {fd : FuncData} {ps ks : List Str} {mf : List D → AH → Res D} {x : Str} {p : Pos} {mk : EM (List D)} {kws : List Keyword} {g : {α : Type} → List α → List α → List α}
def sPar2 (i j : Nat) (ml : EM (List D)) : SM := fun env ah => (ml env ah).thenS env fun ds ah1 => match ds with
  | [x, y] => .nx ((env.set i (some x)).set j (some y)) ah1
  | _ => .stuck
def sSetL (mo mi mv : EM D) : SM := fun env ah => (mv env ah).thenS env fun v ah1 => (mo env ah1).thenS env fun d ah2 => (mi env ah2).thenS env fun kd ah3 => match d, kd with
  | .ref n, .int i => match ah3[n]? with
    | some (.lst xs) => match ixN xs.length i with
      | some j => .nx env (ah3.set n (.lst (xs.set j v)))
      | none => .stuck
    | _ => .stuck
  | _, _ => .stuck
variable {o : Expr} {mo : EM D}
theorem pz_setL {i v : Expr} {mi mv : EM D} {pos' : Pos} (ho : PD X W o mo) (hi : PD X W i mi) (hv : PD X W v mv) (hs : swapsWithSole [.Subscript o i pos'] v pos.line X.env = pure false := by rfl) (hw : swappedStores [.Subscript o i pos'] v X.env = pure none := by rfl) (h1 : (assignEach [.Subscript o i pos'] X.env).map (·.2) = [assign (.Subscript o i pos') X.env] := by rfl)
    (ha : ∀ v, assign (.Subscript o i pos') X.env v = (do
      let ov ← holding [v] (eval o X.env)
      let iv ← holding [v, ov] (eval i X.env)
      standAt pos'
      holding [v, ov, iv] (setItem ov iv v)
      release [v, ov, iv] []) := by intro _; rfl) : PZ X W (.Assign [.Subscript o i pos'] v pos) (sSetL mo mi mv) := by
  refine PS.weak (ps_asg hv (pg_sub ho hi set_list ha) hs hw h1) fun D σ H ⟨μ, env, ah, he, hs, hp⟩ => ?_
  refine ⟨μ, env, ah, he, hs, PostS.bind hp he fun v ah1 μ1 w H1 e1 s1 r1 p1 => ?_⟩
  refine ⟨μ1, env, ah1, he.ext e1, s1, PostS.bind p1 (he.ext e1) fun d ah2 μ2 x H2 e2 s2 r2 p2 => ?_⟩
  refine ⟨μ2, env, ah2, he.ext (e1.trans e2), s2, PostS.bind p2 (he.ext (e1.trans e2)) fun kd ah3 μ3 y H3 e3 s3 r3 p3 => ?_⟩
  split at p3
  · rename_i n i
    obtain ⟨a, ea, rfl⟩ := d_ref (Rep.ext (show Rep X.K μ2 H2 (.ref n) x from r2) e3)
    rw [d_int (show Rep X.K μ3 H3 (.int i) y from r3)]
    split at p3
    · rename_i xs q
      split at p3
      · rename_i j ej
        obtain ⟨vs, h1, r⟩ := s3.ok n a _ ea q
        have rw1 : Rep X.K μ3 H3 v w := Rep.ext (Rep.ext r1 e2) e3
        refine ⟨a, vs, i, j, rfl, rfl, h1, by rw [← r.length]; exact ej, ?_⟩
        have hn : n ≠ 0 := fun z => by
          have := (s3.ro0 n _ q).mpr z
          cases this
        have mu := (s3.ok n a _ ea q).there rfl
        exact p3 μ3 σ _ (Ext.put ea hn mu) (s3.put ea q rfl rfl fun ht => ⟨_, upd_same, Reps.mono (List.prefix_refl _) ht _ _ (r.set j rw1)⟩) ((he.ext ((e1.trans e2).trans e3)).ext (Ext.put ea hn mu))
      · exact p3.elim
    · exact p3.elim
  · exact p3.elim
def lRange (i j : Int) (ah : AH) : Res (List D) := if -(2 ^ 62) ≤ i ∧ i < 2 ^ 62 ∧ -(2 ^ 62) ≤ j ∧ j < 2 ^ 62 ∧ (j - i).toNat ≤ 2 ^ 24 then .ok ((List.range (j - i).toNat).map fun (n : Nat) => D.int (i + n)) ah else .stuck
def lRange1 (d : D) (ah : AH) : Res (List D) := match d with
  | .int j => lRange 0 j ah
  | _ => .stuck
def lRange2 (d f : D) (ah : AH) : Res (List D) := match d, f with
  | .int i, .int j => lRange i j ah
  | _, _ => .stuck
end
end HA
namespace HA
open PySem PySem.Spec PyProof.Rows L2
section
variable {prog : Program} {w : World} {A : Around} {E : Value → Shared → Prop} {s : Shared}
end
section
variable {X : Cx} {W : WX} {k : Nat} {e : Expr} {m : EM D} {pos : Pos}
def tRevT (K : PySem.W.Frag) (te : TE) : TE := fun σ H Q => te σ H fun x H1 => ∃ a xs, x = .ref a ∧ SqT K H1 a xs ∧ ∀ p, H1 p = none → Q (.ref p) (upd H1 p (.tup xs.reverse))
def oRevT (d : D) (ah : AH) : Res D := match d with
  | .tup ds => .ok (.tup ds.reverse) ah
  | _ => .stuck
def lRevL (ds : List D) (ah : AH) : Res (List D) := .ok ds.reverse ah
theorem pl_revL {ml : EM (List D)} {j : Nat} {p1 p2 p3 : Pos} (he : PM X W e ml) : PL X W (.Subscript e (.Slice none none (some (.UnaryOp .USub (.Constant (.int 1) j p1) p2)) p3) pos) (e1 ml lRevL) := by
  refine PE.weak (pe_revL he) fun σ H Q ⟨μ, env, ah, he, hs, hp⟩ => ?_
  refine ⟨μ, env, ah, he, hs, hp.bind0 fun ds ah1 μ1 x H1 e1 s1 r1 p1 => ?_⟩
  obtain ⟨a, vs, rfl, q, r⟩ := r1
  refine ⟨a, vs, rfl, q, fun p np => ?_⟩
  exact p1 μ1 _ _ (e1.trans (Ext.other np)) (s1.other np) ⟨p, _, rfl, e1.there p np, upd_same, s1.free np, (r.ext (Ext.other np)).reverse⟩
end
end HA
namespace HA
open PySem PySem.Spec PyProof.Rows L2
abbrev ah0 (ns : List Int) : AH := [.ro (ns.map D.int)]
section
variable {P : Program} {w : World} {K : PySem.W.Frag} {mg mb : Str → Option Value} {k : Nat} {fa a : Addr} {fd : FuncData} {x : Str} {m : List D → AH → Res D} {s₁ : Shared} {vs : List Value} {ns : List Int}
theorem sim0 {H : Hp} (h : (∃ o, H a = some (.frz o (.lst (ns.map V.int)))) ∨ ∃ (o : Obj) (its : Array Value) (n : Nat), K.lookup a = some o ∧ o.cls = .type "list" ∧ o.dict = none ∧ o.data = .seq its n ∧ its.size ≤ sizeLine ∧ Vals (ns.map V.int) its.toList) : Sim K [a] H (ah0 ns) := by
  refine ⟨rfl, fun n j b o o' e1 e2 e3 e4 r1 r2 => ?_, fun n b o e1 e2 => ?_, by simp, fun n o e => ?_⟩
  · cases n with
    | zero => simp at e3; subst e3; cases r1
    | succ n => simp at e3
  · cases n with
    | zero =>
      simp at e1 e2
      subst e1; subst e2
      exact ⟨ns.map V.int, h, Reps.of_ints ns⟩
    | succ n => simp at e2
  · cases n with
    | zero => simp at e; subst e; simp [AObj.isRo]
    | succ n => simp at e
theorem law_G (KX : K.In s₁.heap) (gl : s₁.heap.Ns mainGlobals mg) (bn : s₁.heap.Ns builtinsNs mb) (bb : ∀ x : Str, x ≠ "__name__" → mb x = bootBuiltins x) (nl : s₁.heap.NoLimit) (g0 : s₁.gens = #[])
    (ha : s₁.heap.get? a = some { cls := .type "list", data := .seq vs.toArray }) (hi : IntsAre vs ns) (hl : ns.length ≤ sizeLine) (hr : Rm k callerA)
    (F : ∀ base : Heap, K.In base → base.Ns mainGlobals mg → FnG P w K mg base k fa fd [x] m) (bd : ∀ (s : Shared) (u : Value), BindsTo s fd ⟨[u], []⟩ [(x, u)])
    (hm : ∃ ah', m [.ref 0] (ah0 ns) = .ok (.bl true) ah') :
    codeAny (model P w) callerA (.call (.ref fa) ⟨[.ref a], []⟩) (fun r s' => r = .ok (.ret (.bool true)) ∧ OldK s₁.heap s'.heap ∧ s'.os = s₁.os ∧ AllBare s'.gens) s₁ := by
  obtain ⟨ah', hm⟩ := hm
  have rv := vals_ints hi
  have lv := hi.length
  have main : ∀ H : Hp, Sim K [a] H (ah0 ns) → Only H → HOk P w H s₁.heap → (∀ b, H b ≠ none → b = a) → (H a ≠ none → K.lookup a = none) →
      codeAny (model P w) callerA (.call (.ref fa) ⟨[.ref a], []⟩) (fun r s' => r = .ok (.ret (.bool true)) ∧ OldK s₁.heap s'.heap ∧ s'.os = s₁.os ∧ AllBare s'.gens) s₁ := fun H S only ok at1 un1 => by
    have no : ∀ {b : Addr} {o : Obj} {es : Array DictEntry} {ep : Nat}, s₁.heap.get? b = some o → o.data = .dict es ep → H b = none := fun {b o es ep} e d => by
      cases q : H b with
      | none => rfl
      | some u =>
        obtain rfl : b = a := at1 b (by rw [q]; simp)
        rw [ha] at e
        cases e
        cases (show Data.seq vs.toArray _ = Data.dict es ep from d)
    have ns1 : ∀ {b : Addr} {f : Str → Option Value}, s₁.heap.Ns b f → (hidT s₁.heap H).Ns b f := fun {b f} ⟨o, es, ep, e, d, r⟩ => ⟨o, es, ep, hidT_get e (no e d), d, r⟩
    have kin : K.In (hidT s₁.heap H) := fun b o e => hidT_get (KX b o e) (by
      cases q : H b with
      | none => rfl
      | some u =>
        obtain rfl : b = a := at1 b (by rw [q]; simp)
        rw [un1 (by rw [q]; simp)] at e
        cases e)
    obtain ⟨mc, l1, l2⟩ := nl
    have env0 : Env0 P w K mg (hidT s₁.heap H) callerA [] s₁ H := ⟨rfl, ⟨kin, ns1 gl, ⟨mb, ns1 bn, bb⟩, ⟨mc, ns1 l1, l2⟩⟩, fun b o e => of_hidT e, Nat.le_of_eq (hidT_size _ _), trivial, fun b hb => (by cases hb), ok, .of_eq g0⟩
    have rd : Reps K [a] H [.ref 0] [.ref a] := Reps.cons (by simp only [Rep]; exact ⟨a, rfl, rfl⟩) Reps.nil
    refine codeAny_mono ((F _ kin (ns1 gl)).run callerA [] s₁ H ⟨[.ref a], []⟩ [.ref a] [.ref a] (fun v _ => v = .bl true) (fun _ _ _ => False) [a] [.ref 0] (ah0 ns) hr env0 (bd s₁ (.ref a)) (.cons rfl .nil) rfl S rd (by rw [hm]; intro μ' y H' _ _ r; exact d_bl (K := K) (μ := μ') (H := H') r)) fun r s' h => ?_
    cases r with
    | error e => exact (h.elim (fun ⟨_, _, _, _, _, _, _, _, _, _, _, _, z⟩ => z) (fun ⟨_, _, _, _, _, _, _, _, _, _, _, _, z⟩ => z.2) : False).elim
    | ok fl =>
      cases fl with
      | next => exact h.elim
      | brk => exact h.elim
      | cont => exact h.elim
      | ret u =>
        obtain ⟨v, H', os, bare, un, ok', r', q⟩ := h
        obtain rfl : v = .bl true := q
        obtain rfl : u = Value.bool true := r'
        refine ⟨rfl, OldK.of_keep fun b o e => ?_, os, bare⟩
        cases q : H b with
        | none => exact un.keep b o e q (fun z => by cases z) (by simp)
        | some u =>
          rcases only b with z | ⟨ob, xs, z⟩
          · rw [q] at z; cases z
          · obtain ⟨e1, _⟩ := ok b _ z
            obtain ⟨e2, _⟩ := ok' b _ (un.frzs b ob _ z)
            rw [e] at e1
            cases e1
            exact e2
  cases hk : K.lookup a with
  | some o =>
    have e := KX a o hk
    rw [ha] at e
    cases e
    refine main (fun _ => none) (sim0 (.inr ⟨_, vs.toArray, _, hk, rfl, rfl, rfl, by rw [List.size_toArray, lv]; exact hl, by simpa using rv⟩)) (fun _ => .inl rfl) (fun b u z => by cases (show (none : Option HO) = some u from z)) (fun b z => (z rfl).elim) fun z => (z rfl).elim
  | none =>
    let o : Obj := { cls := .type "list", data := .seq vs.toArray }
    let H : Hp := fun b => if b = a then some (.frz o (.lst (ns.map V.int))) else none
    have at_a : H a = some (.frz o (.lst (ns.map V.int))) := if_pos rfl
    have off : ∀ b, b ≠ a → H b = none := fun b h => if_neg h
    refine main H (sim0 (.inl ⟨o, at_a⟩)) (fun b => ?_) (fun b u z => ?_) (fun b z => ?_) fun _ => hk
    · by_cases hb : b = a
      · subst hb; exact .inr ⟨_, _, at_a⟩
      · exact .inl (off b hb)
    · by_cases hb : b = a
      · subst hb
        rw [at_a] at z
        cases z
        exact ⟨ha, by rw [List.length_map]; exact hl, vs, _, rv, ha⟩
      · rw [off b hb] at z; cases z
    · by_cases hb : b = a
      · exact hb
      · exact (z (off b hb)).elim
end
theorem walk_G {l : PySem.W.OpenLaw} {k : Nat} {q : Program} {loose : List Str} {XP : (Str → Option Value) → Heap → Prop} {YP : World → Heap → Prop} {d : DefRec} {K : Params → PySem.W.Frag} {x : Str} {m : List D → AH → Res D}
    (hn : l.most = some 63) (hdf : d.params.defaults = []) (hr : Rm k callerA) (hY : ∀ (w : World) (h : Heap), YP w h → (K w.params).In h)
    (F : ∀ (w : World) (mg : Str → Option Value) (fa : Addr) (h : Heap), (K w.params).In h → h.Ns mainGlobals mg → mg d.name = some (.ref fa) →
      ∃ fd : FuncData, (∀ (s : Shared) (u : Value), BindsTo s fd ⟨[u], []⟩ [(x, u)]) ∧ ∀ base : Heap, (K w.params).In base → base.Ns mainGlobals mg → FnG l.prog w (K w.params) mg base k fa fd [x] m)
    (hm : ∀ ns : List Int, ns.length ≤ 63 → ∃ ah', m [.ref 0] (ah0 ns) = .ok (.bl true) ah') : PySem.W.WalkO q loose XP YP l.row.toRowW d [] (fun f vs => PySem.call f vs) := by
  refine Att.attach_call hn hdf fun w s₀ s₁ mg mb fa o pm cd doc a vs ns G Y ho hd hcd hmg hobj hints hlen hg => ?_
  have KX := hY w _ Y
  obtain ⟨fd, hb, hF⟩ := F w mg fa _ KX G.T.g hmg
  exact law_G KX G.T.g G.T.b G.T.builtins G.T.nolimit hg hobj hints (Nat.le_trans hlen (by decide)) hr hF hb (hm ns hlen)
theorem rm_caller {k : Nat} (h : k ≤ 200) : Rm k callerA := ⟨⟨rfl, by show 1 + claimMargin + 3 * k + 5 < recursionLimit; unfold claimMargin recursionLimit; omega, by show 4 + 16 * k + 200 < cLine; unfold cLine; omega⟩, rfl⟩
def CR (K : PySem.W.Frag) (u : Value) (d : D) : Prop := ∃ v, RelV v u ∧ ∀ μ H, Rep K μ H d v
theorem cr_str {K : PySem.W.Frag} {i : Str} {t : Tok} : CR K (.str i t) (.str i) := ⟨.str i, ⟨t, rfl⟩, fun _ _ => by simp only [Rep]⟩
inductive CRs (K : PySem.W.Frag) : List Value → List D → Prop where
  | nil : CRs K [] []
  | cons {u : Value} {d : D} {us : List Value} {ds : List D} : CR K u d → CRs K us ds → CRs K (u :: us) (d :: ds)
theorem pd_const {X : Cx} {W : WX} {x : Str} {d : D} {pos : Pos} (hg : Gl X x) (h : ∃ u, X.mg x = some u ∧ CR X.K u d) (hd : (x == ("__debug__" : Str)) = false := by decide) : PD X W (.Name x pos) (eC d) := by
  obtain ⟨u, hm, v, r, q⟩ := h
  exact pd_glob hg hm r q hd
end HA
namespace HA
open PySem PySem.Spec PyProof.Rows L2
section
variable {X : Cx} {W : WX} {k : Nat} {e : Expr} {es : List Expr} {m : EM D} {ml : EM (List D)} {pos : Pos}
def bChain (ma mb mc : EM D) (f g : D → D → AH → Res Bool) : EM Bool := fun env ah => (ma env ah).bind fun x a1 => (mb env a1).bind fun y a2 => (f x y a2).bind fun c a3 => if c = true then (mc env a3).bind fun z a4 => g y z a4 else .ok false a3
variable {op op' : CmpOp} {a b c : Expr} {ma mb mc : EM D} {f g : D → D → AH → Res Bool}
theorem chain_step {σ : L2.St} {H : Hp} {Q : VK} {μ : List Addr} {env : Env} {ah : AH} (he : EnvRel X.K μ H env σ) (hs : Sim X.K μ H ah) (hp : Post X.K RBV (fun c d H' => W c d σ H') μ H Q (bChain ma mb mc f g env ah)) :
    tChain (rO (R := RBV) X.K (fun c d H' => W c d σ H') f) (rO (R := RBV) X.K (fun c d H' => W c d σ H') g) (tG X.K (RD X.K) W ma) (tG X.K (RD X.K) W mb) (tG X.K (RD X.K) W mc) σ H Q := by
  unfold bChain at hp
  refine ⟨μ, env, ah, he, hs, hp.bind fun dx a1 μ1 x H1 e1 s1 r1 p1 => ?_⟩
  refine tG_next he e1 s1 (p1.bind fun dy a2 μ2 y H2 e2 s2 r2 p2 => ?_)
  refine ⟨μ2, a2, dx, dy, s2, Rep.ext r1 e2, r2, p2.bind fun t a3 μ3 z H3 e3 s3 r3 p3 => ?_⟩
  refine ⟨t, r3, ?_⟩
  have e123 := (e1.trans e2).trans e3
  cases t with
  | true =>
    rw [if_pos rfl] at p3 ⊢
    refine tG_next he e123 s3 (p3.bind fun dz a4 μ4 z' H4 e4 s4 r4 p4 => ?_)
    exact ⟨μ4, a4, dy, dz, s4, Rep.ext r2 (e3.trans e4), r4, p4⟩
  | false =>
    rw [if_neg Bool.false_ne_true] at p3 ⊢
    exact p3.ok1 s3 rfl
theorem pd_chain (ho : OpD X RBV (compareOp op) f) (ho' : OpD X RBV (compareOp op') g) (ha : PD X W a ma) (hb : PD X W b mb) (hc : PD X W c mc) (hm : lastMarks [op, op'] [b, c] = false := by with_unfolding_all rfl) :
    PD X W (.Compare a [op, op'] [b, c] pos) (eB (bChain ma mb mc f g)) := by
  refine PE.weak (t := fun σ H Q => tChain (rO (R := RBV) X.K (fun c d H' => W c d σ H') f) (rO (R := RBV) X.K (fun c d H' => W c d σ H') g) (tG X.K (RD X.K) W ma) (tG X.K (RD X.K) W mb) (tG X.K (RD X.K) W mc) σ H Q)
    ⟨fun pins s σ H Q I h => (pe_chain (ho _) (ho' _) ha hb hc hm).run pins s σ H Q I h⟩ fun σ H Q ⟨μ, env, ah, he, hs, hp⟩ => chain_step he hs (Post.bv hp)
def oAddA : D → D → AH → Res D
  | .ref n, .ref m, ah => match ah[n]?, ah[m]? with
    | some (.lst xs), some (.lst ys) => if xs.length + ys.length ≤ line then .ok (.ref ah.length) (ah ++ [.lst (xs ++ ys)]) else .stuck
    | _, _ => .stuck
  | x, y, ah => oAdd x y ah
theorem OpR.or {F : Value → Value → Sem Value} {r r' : R2} (h : OpR X F r) (h' : OpR X F r') : OpR X F (fun x y H Q => r x y H Q ∨ r' x y H Q) := fun pins s σ H x y v u Q I rx ry q => q.elim (h pins s σ H x y v u Q I rx ry) (h' pins s σ H x y v u Q I rx ry)
theorem od_addA : OpD X (RD X.K) (binaryOp .Add) oAddA := fun Wx => by
  refine OpR.imp (OpR.or (od_add Wx) op_cat) fun x y H Q ⟨μ, ah, dx, dy, S, rx, ry, hp⟩ => ?_
  have old : oAddA dx dy ah = oAdd dx dy ah → rO (R := RD X.K) X.K Wx oAdd x y H Q ∨ rCat x y H Q := fun e => .inl ⟨μ, ah, dx, dy, S, rx, ry, by rw [← e]; exact hp⟩
  cases dx with
  | ref n =>
    cases dy with
    | ref m =>
      unfold oAddA at hp
      simp only at hp
      split at hp
      · rename_i xs ys q1 q2
        split at hp
        · rename_i hl
          obtain ⟨a, ea, rfl⟩ := d_ref rx
          obtain ⟨b, eb, rfl⟩ := d_ref ry
          obtain ⟨a', e1, vs, ha, ra⟩ := S.at q1
          obtain ⟨b', e2, ws, hb, rb⟩ := S.at q2
          rw [ea] at e1; cases e1
          rw [eb] at e2; cases e2
          refine .inr ⟨a, b, vs, ws, rfl, rfl, ha, hb, line_le (by rw [← ra.length, ← rb.length]; exact hl), fun p np => ?_⟩
          have r := (ra.append rb).mono (List.prefix_append μ [p]) (TExt.new (o := .lst (vs ++ ws)) np)
          refine hp (μ ++ [p]) (.ref p) (upd H p (.lst (vs ++ ws))) (Ext.ours np S.mpos) (S.new np rfl ⟨vs ++ ws, upd_same, r⟩) ?_
          show Rep X.K (μ ++ [p]) (upd H p (.lst (vs ++ ws))) (.ref ah.length) (.ref p)
          simp only [Rep]
          exact ⟨p, by rw [← S.len]; simp, rfl⟩
        · exact hp.elim
      · exact hp.elim
    | _ => exact old rfl
  | _ => exact old rfl
end
structure TF (K : PySem.W.Frag) (mg : Str → Option Value) (x : Str) (st : Stmt) (ps : List Str) where
  a : Addr
  fd : FuncData
  F : Fun K x x st a fd
  g : mg x = some (.ref a)
  k : PySem.W.keepIn K (.ref a) = true
  ga : gA K x = a
  b : Binds K fd ps []
theorem fnG_stuck {P : Program} {w : World} {K : PySem.W.Frag} {mg : Str → Option Value} {base : Heap} {k : Nat} {f : Addr} {fd : FuncData} {ps : List Str} : FnG P w K mg base k f fd ps (fun _ _ => .stuck) := ⟨fun _ _ _ _ _ _ _ _ _ _ _ _ _ _ _ _ _ _ _ h => h.elim⟩
def tf_mk {K : PySem.W.Frag} {h : Heap} {mg : Str → Option Value} (X : K.In h) (G : h.Ns mainGlobals mg) {x : Str} {st : Stmt} {ps : List Str} {f : Addr} {oc : Value} {od an : Option Addr} {osl : Array (Option Value)} {kV doc pm cdv ct : Value}
    (hb : ∀ (kV doc pm : Value) (an : Option Addr) (cdv ct : Value) (us : List Value), us.length = ps.length → bindArgs (PySem.W.fnOf x x (defArgs st) (defBody st) (defScope st) .none kV doc pm an cdv ct) ⟨us, []⟩ = pure (ps.zip us))
    (l : K.lookup f = some ⟨oc, od, .func (PySem.W.fnOf x x (defArgs st) (defBody st) (defScope st) .none kV doc pm an cdv ct), osl⟩) (n : PySem.W.nsIn K mainGlobals x = some (some (.ref f)))
    (c : PySem.W.codeIn K cdv x = true) (k : PySem.W.keepIn K (.ref f) = true) : TF K mg x st ps :=
  ⟨f, _, fun_mk l c k, PySem.W.mg_of X G n, k, gA_of n, (fun_mk l c k).binds hb⟩
def pick (π : List Nat) {α : Type} (us ws : List α) : List α := π.filterMap fun i => (us ++ ws)[i]?
theorem pick_cons {α : Type} {us ws : List α} {i : Nat} {π : List Nat} (h : i < us.length + ws.length) : pick (i :: π) us ws = (us ++ ws)[i]'(by simpa using h) :: pick π us ws := by
  unfold pick
  rw [List.filterMap_cons, List.getElem?_eq_getElem (by simpa using h)]
section
variable {X : Cx} {W : WX} {elt tg iter : Expr} {ifs : List Expr} {scope : Scope} {own : List (Str × Nat)} {pos : Pos} {mi : EM Itm} {tm : TM} {ts vs : List Nat} {mt : EM Bool} {me : EM D}
theorem pl_lcv (hc : X.calm = true) (hN : X.N.Nodup) (hi : PF X W tg iter mi) (ok : BlkOk X.N X.env.scope scope own) (hv : own.map (·.2) = vs) (hts : ∀ j ∈ ts, j ∈ own.map (·.2))
    (hg : ∀ (s : Shared) (H : Hp) (C : Addr) (cl : List (Str × Addr)) (fp : List Addr), PT1 (X.blk s H scope (compEnvC scope cl C X.env) fp) tg ts tm) (ht : ∀ (s : Shared) (H : Hp) (C : Addr) (cl : List (Str × Addr)) (fp : List Addr), PTsD (X.blk s H scope (compEnvC scope cl C X.env) fp) W0 ifs mt)
    (he : ∀ (s : Shared) (H : Hp) (C : Addr) (cl : List (Str × Addr)) (fp : List Addr), PD (X.blk s H scope (compEnvC scope cl C X.env) fp) W0 elt me) (hs : ∀ x, foldedSetIterable iter X.env x = pure x := by intro _; rfl) :
    PL X W (.ListComp elt [⟨tg, iter, ifs, 0⟩] scope pos) (lLc mi tm mt me vs) := hv ▸ pl_lc hc hN hi ok hts hg ht he hs
theorem pz_setLcv {i : Nat} {y : Str} {py spos : Pos} (hc : X.calm = true) (hN : X.N.Nodup) (hy : X.N[i]? = some y) (hyl : X.env.scope.names.lookup y = some .local)
    (hsw : swapsWith (.ListComp elt [⟨tg, iter, ifs, 0⟩] scope pos) (some (.Name y py)) spos.line X.env = pure true) (hi : PF X W tg iter mi) (ok : BlkOk X.N X.env.scope scope own) (hv : own.map (·.2) = vs) (hts : ∀ j ∈ ts, j ∈ own.map (·.2))
    (hg : ∀ (s : Shared) (H : Hp) (C : Addr) (cl : List (Str × Addr)) (fp : List Addr), PT1 (X.blk s H scope (compEnvC scope cl C X.env) fp) tg ts tm) (ht : ∀ (s : Shared) (H : Hp) (C : Addr) (cl : List (Str × Addr)) (fp : List Addr), PTsD (X.blk s H scope (compEnvC scope cl C X.env) fp) W0 ifs mt)
    (he : ∀ (s : Shared) (H : Hp) (C : Addr) (cl : List (Str × Addr)) (fp : List Addr), PD (X.blk s H scope (compEnvC scope cl C X.env) fp) W0 elt me) (hs : ∀ x, foldedSetIterable iter X.env x = pure x := by intro _; rfl) :
    PZ X W (.Assign [.Name y py] (.ListComp elt [⟨tg, iter, ifs, 0⟩] scope pos) spos) (sAsg (eNew (lLc mi tm mt me vs)) (gSet i)) := hv ▸ pz_setLc hc hN hy hyl hsw hi ok hts hg ht he hs
end
end HA
namespace HA
open PySem PySem.Spec PyProof.Rows L2
section
variable {α β γ δ : Type} (env : Env) (ah : AH)
@[simp] theorem eVar_zero (d : D) (r : Env) : eVar 0 (some d :: r) ah = .ok d ah := rfl
@[simp] theorem eVar_succ (i : Nat) (x : Option D) (r : Env) : eVar (i + 1) (x :: r) ah = eVar i r ah := by
  unfold eVar
  rw [List.getElem?_cons_succ]
@[simp] theorem eC_def (d : D) : eC d env ah = .ok d ah := rfl
@[simp] theorem e1_def (ma : EM α) (f : α → AH → Res γ) : e1 ma f env ah = (ma env ah).bind f := rfl
@[simp] theorem e2_def (ma : EM α) (mb : EM β) (f : α → β → AH → Res γ) : e2 ma mb f env ah = (ma env ah).bind fun x ah1 => (mb env ah1).bind fun y ah2 => f x y ah2 := rfl
@[simp] theorem e3_def (ma : EM α) (mb : EM β) (mc : EM γ) (f : α → β → γ → AH → Res δ) : e3 ma mb mc f env ah = (ma env ah).bind fun x ah1 => (mb env ah1).bind fun y ah2 => (mc env ah2).bind fun z ah3 => f x y z ah3 := rfl
@[simp] theorem eB_def (m : EM Bool) : eB m env ah = (m env ah).bind fun b ah => .ok (.bl b) ah := rfl
@[simp] theorem aNil_def : aNil env ah = .ok [] ah := rfl
@[simp] theorem aCons_def (m : EM D) (r : EM (List D)) : aCons m r env ah = (m env ah).bind fun x ah1 => (r env ah1).bind fun xs ah2 => .ok (x :: xs) ah2 := rfl
@[simp] theorem bAnd_def (a b : EM Bool) : bAnd a b env ah = (a env ah).bind fun x ah1 => if x = true then b env ah1 else .ok false ah1 := rfl
@[simp] theorem bOr_def (a b : EM Bool) : bOr a b env ah = (a env ah).bind fun x ah1 => if x = true then .ok true ah1 else b env ah1 := rfl
@[simp] theorem bNot_def (a : EM Bool) : bNot a env ah = (a env ah).bind fun x ah1 => .ok (!x) ah1 := rfl
@[simp] theorem eAnd_def (a b : EM D) : eAnd a b env ah = (a env ah).bind fun x ah1 => (truth x ah1).bind fun k ah2 => if k = true then b env ah2 else .ok x ah2 := rfl
@[simp] theorem eOr_def (a b : EM D) : eOr a b env ah = (a env ah).bind fun x ah1 => (truth x ah1).bind fun k ah2 => if k = true then .ok x ah2 else b env ah2 := rfl
@[simp] theorem eNot_def (a : EM D) : eNot a env ah = (a env ah).bind fun x ah1 => (truth x ah1).bind fun k ah2 => .ok (.bl (!k)) ah2 := rfl
@[simp] theorem eIf_def (c : EM Bool) (a b : EM α) : eIf c a b env ah = (c env ah).bind fun x ah1 => if x = true then a env ah1 else b env ah1 := rfl
@[simp] theorem eTup_def (m : EM (List D)) : eTup m env ah = (m env ah).bind fun ds ah => if ds.length ≤ line then .ok (.tup ds) ah else .stuck := rfl
@[simp] theorem lLst_def (m : EM (List D)) : lLst m env ah = (m env ah).bind fun ds ah => if ds.length ≤ line then .ok ds ah else .stuck := rfl
@[simp] theorem eNew_def (m : EM (List D)) : eNew m env ah = (m env ah).bind fun ds ah => .ok (.ref ah.length) (ah ++ [.lst ds]) := rfl
@[simp] theorem tNew_def (m : EM (List D)) : tNew m env ah = (m env ah).bind fun ds ah => .ok (.inl ds) ah := rfl
@[simp] theorem tOur_def (m : EM D) : tOur m env ah = (m env ah).bind fun d ah => match d with
  | .ref n => .ok (.inr n) ah
  | _ => .stuck := rfl
@[simp] theorem oPart_none : oPart none env ah = .ok none ah := rfl
@[simp] theorem oPart_some (m : EM D) : oPart (some m) env ah = (m env ah).bind fun d ah => match d with
  | .int i => .ok (some i) ah
  | _ => .stuck := rfl
@[simp] theorem bChain_def (ma mb mc : EM D) (f g : D → D → AH → Res Bool) : bChain ma mb mc f g env ah = (ma env ah).bind fun x a1 => (mb env a1).bind fun y a2 => (f x y a2).bind fun c a3 => if c = true then (mc env a3).bind fun z a4 => g y z a4 else .ok false a3 := rfl
@[simp] theorem bNil_def (neg : Bool) (m : EM (List D)) : bNil neg m env ah = (m env ah).bind (lNil neg) := rfl
@[simp] theorem eMt_def (mo : EM D) (ml : EM (List D)) (f : D → List D → AH → Res D) : eMt mo ml f env ah = (mo env ah).bind fun d ah1 => if isList d ah1 = true then (ml env ah1).bind fun ds ah2 => f d ds ah2 else .stuck := rfl
@[simp] theorem iNew_def (m : EM (List D)) : iNew m env ah = (m env ah).bind fun ds ah => .ok ⟨ds, []⟩ ah := rfl
@[simp] theorem bYes_def : bYes env ah = .ok true ah := rfl
@[simp] theorem lLc_def (mi : EM Itm) (tm : TM) (test : EM Bool) (elt : EM D) (vs : List Nat) : lLc mi tm test elt vs env ah = (mi env ah).bind fun t ah1 => lcLoop t tm test elt vs env t.items [] ah1 := rfl
@[simp] theorem eDnew_def : eDnew env ah = .ok (.ref ah.length) (ah ++ [.dK []]) := rfl
@[simp] theorem eDisp_def (l : List (EM D × EM D)) : eDisp l env ah = (dPairs l env ah).bind fun ps ah1 => match optAll (fun p => (dKey p.1).map fun kk => (kk, p.2)) ps with
  | some kvs => if kvs.length ≤ 15 then .ok (.ref ah1.length) (ah1 ++ [.dK (dispD kvs)]) else .stuck
  | none => .stuck := rfl
@[simp] theorem dPairs_nil : dPairs [] env ah = .ok [] ah := rfl
@[simp] theorem dPairs_cons (mk mv : EM D) (r : List (EM D × EM D)) : dPairs ((mk, mv) :: r) env ah = (mk env ah).bind fun x ah1 => (mv env ah1).bind fun y ah2 => (dPairs r env ah2).bind fun ps ah3 => .ok ((x, y) :: ps) ah3 := rfl
@[simp] theorem thenS_ok (a : α) (f : α → AH → SRes) : (Res.ok a ah).thenS env f = f a ah := rfl
@[simp] theorem thenS_stuck (f : α → AH → SRes) : (Res.stuck : Res α).thenS env f = .stuck := rfl
@[simp] theorem thenS_exn (c : Str) (fs : Option (List (Str × D))) (f : α → AH → SRes) : (Res.exn c fs ah : Res α).thenS env f = .exn c fs env ah := rfl
def SRes.next (r : SRes) (b : SM) : SRes := match r with
  | .nx env1 ah1 => b env1 ah1
  | r => r
@[simp] theorem next_nx (b : SM) : (SRes.nx env ah).next b = b env ah := rfl
@[simp] theorem next_rt (d : D) (b : SM) : (SRes.rt d ah).next b = .rt d ah := rfl
@[simp] theorem next_bk (b : SM) : (SRes.bk env ah).next b = .bk env ah := rfl
@[simp] theorem next_ct (b : SM) : (SRes.ct env ah).next b = .ct env ah := rfl
@[simp] theorem next_exn (c : Str) (fs : Option (List (Str × D))) (b : SM) : (SRes.exn c fs env ah).next b = .exn c fs env ah := rfl
@[simp] theorem next_stuck (b : SM) : SRes.stuck.next b = .stuck := rfl
@[simp] theorem next_if (c : Prop) [Decidable c] (x y : SRes) (b : SM) : (if c then x else y).next b = if c then x.next b else y.next b := by split <;> rfl
@[simp] theorem sSeq_def (a b : SM) : sSeq a b env ah = (a env ah).next b := by unfold sSeq SRes.next; rfl
@[simp] theorem sSkip_def : sSkip env ah = .nx env ah := rfl
@[simp] theorem sRet_def (m : EM D) : sRet m env ah = (m env ah).thenS env fun d ah1 => .rt d ah1 := rfl
@[simp] theorem sRetN_def : sRetN env ah = .rt .non ah := rfl
@[simp] theorem sExpr_def (m : EM D) : sExpr m env ah = (m env ah).thenS env fun _ ah1 => .nx env ah1 := rfl
@[simp] theorem sIf_def (c : EM Bool) (a b : SM) : sIf c a b env ah = (c env ah).thenS env fun x ah1 => if x = true then a env ah1 else b env ah1 := rfl
@[simp] theorem sAsg_def (m : EM D) (t : TM) : sAsg m t env ah = (m env ah).thenS env fun d ah1 => match t d env ah1 with
  | some env1 => .nx env1 ah1
  | none => .stuck := rfl
@[simp] theorem sAsg_set (m : EM D) (i : Nat) : sAsg m (gSet i) env ah = (m env ah).thenS env fun d ah1 => .nx (env.set i (some d)) ah1 := rfl
@[simp] theorem gSet_def (i : Nat) (d : D) : gSet i d env ah = some (env.set i (some d)) := rfl
@[simp] theorem gTup_def (n : Nat) (u : List D → Env → AH → Option Env) (ds : List D) : gTupD n u (.tup ds) env ah = if ds.length = n then u ds env ah else none := rfl
@[simp] theorem gNil_def : gNilD [] env ah = some env := rfl
@[simp] theorem gCons_def (t : TM) (u : List D → Env → AH → Option Env) (d : D) (r : List D) : gConsD t u (d :: r) env ah = (t d env ah).bind fun env1 => u r env1 ah := rfl
@[simp] theorem sPut_def (mo mi mv : EM D) : sPut mo mi mv env ah = (mv env ah).thenS env fun v ah1 => (mo env ah1).thenS env fun d ah2 => (mi env ah2).thenS env fun kd ah3 => match d, dKey kd with
  | .ref n, some kk => match ah3[n]? with
    | some (.dK kvs) => if kvs.length < line then .nx env (ah3.set n (.dK (putD kvs kk v))) else .stuck
    | _ => .stuck
  | _, _ => .stuck := by
  unfold sPut
  rfl
@[simp] theorem sFor_def (mi : EM Itm) (tm : TM) (body : SM) : sFor mi tm body env ah = (mi env ah).thenS env fun t ah1 => forLoop t tm body t.items env ah1 := rfl
@[simp] theorem sPar2_def (i j : Nat) (ml : EM (List D)) : sPar2 i j ml env ah = (ml env ah).thenS env fun ds ah1 => match ds with
  | [x, y] => .nx ((env.set i (some x)).set j (some y)) ah1
  | _ => .stuck := rfl
@[simp] theorem bind_if (c : Prop) [Decidable c] (x y : Res α) (f : α → AH → Res β) : (if c then x else y).bind f = if c then x.bind f else y.bind f := by split <;> rfl
@[simp] theorem thenS_if (c : Prop) [Decidable c] (x y : Res α) (f : α → AH → SRes) : (if c then x else y).thenS env f = if c then x.thenS env f else y.thenS env f := by split <;> rfl
def SRes.fin (r : SRes) (ah : AH) : Res D := match r with
  | .nx _ ah' => HA.fin ah .non ah'
  | .rt d ah' => HA.fin ah d ah'
  | .exn c fs _ ah' => .exn c fs (finX ah fs ah')
  | _ => .stuck
@[simp] theorem sfin_nx (ah' : AH) : (SRes.nx env ah').fin ah = HA.fin ah .non ah' := rfl
@[simp] theorem sfin_rt (d : D) (ah' : AH) : (SRes.rt d ah').fin ah = HA.fin ah d ah' := rfl
@[simp] theorem sfin_exn (c : Str) (fs : Option (List (Str × D))) (ah' : AH) : (SRes.exn c fs env ah').fin ah = .exn c fs (finX ah fs ah') := rfl
@[simp] theorem sfin_if (c : Prop) [Decidable c] (x y : SRes) : (if c then x else y).fin ah = if c then x.fin ah else y.fin ah := by split <;> rfl
def SRes.out (r : SRes) : Res D := match r with
  | .nx _ ah' => .ok .non ah'
  | .rt d ah' => .ok d ah'
  | .exn c fs _ ah' => .exn c fs ah'
  | _ => .stuck
@[simp] theorem out_nx (ah' : AH) : (SRes.nx env ah').out = .ok .non ah' := rfl
@[simp] theorem out_rt (d : D) (ah' : AH) : (SRes.rt d ah').out = .ok d ah' := rfl
@[simp] theorem out_exn (c : Str) (fs : Option (List (Str × D))) (ah' : AH) : (SRes.exn c fs env ah').out = .exn c fs ah' := rfl
@[simp] theorem out_if (c : Prop) [Decidable c] (x y : SRes) : (if c then x else y).out = if c then x.out else y.out := by split <;> rfl
theorem fnR_1 (n : Nat) (mb : SM) (a : D) : fnR n 1 mb [a] ah = (mb (some a :: List.replicate (n - 1) none) ah).out := by unfold fnR SRes.out; rfl
theorem fnM_1 (n : Nat) (mb : SM) (a : D) : fnM n 1 mb [a] ah = (mb (some a :: List.replicate (n - 1) none) ah).fin ah := by unfold fnM SRes.fin; rfl
theorem fnM_2 (n : Nat) (mb : SM) (a b : D) : fnM n 2 mb [a, b] ah = (mb (some a :: some b :: List.replicate (n - 2) none) ah).fin ah := by unfold fnM SRes.fin; rfl
end
@[simp] theorem fin_same' (ah : AH) (d : D) : fin ah d ah = .ok d ah := fin_same ah d
@[simp] theorem oAdd_int (i j : Int) (ah : AH) : oAdd (.int i) (.int j) ah = .ok (.int (i + j)) ah := rfl
@[simp] theorem oAddA_int (i j : Int) (ah : AH) : oAddA (.int i) (.int j) ah = .ok (.int (i + j)) ah := rfl
@[simp] theorem oSub_int (i j : Int) (ah : AH) : oSub (.int i) (.int j) ah = .ok (.int (i - j)) ah := rfl
@[simp] theorem oNeg_int (i : Int) (ah : AH) : oNeg (.int i) ah = .ok (.int (-i)) ah := rfl
theorem log2_lt {i : Int} {n : Nat} (hn : 0 < n) (h : i.natAbs < 2 ^ n) : i.natAbs.log2 < n := by
  by_cases z : i.natAbs = 0
  · rw [z]; simpa using hn
  · exact (Nat.log2_lt z).mpr h
theorem mulOk_of {i j : Int} (h1 : i.natAbs < 2 ^ 1000) (h2 : j.natAbs < 2 ^ 1000) : mulOk i j = true := by
  unfold mulOk
  have a := log2_lt (by decide) h1
  have b := log2_lt (by decide) h2
  rw [decide_eq_true_eq]
  omega
theorem oMul_int {i j : Int} (ah : AH) (h1 : i.natAbs < 2 ^ 1000) (h2 : j.natAbs < 2 ^ 1000) : oMul (.int i) (.int j) ah = .ok (.int (i * j)) ah := by
  unfold oMul
  simp only
  rw [if_pos (mulOk_of h1 h2)]
theorem oFdiv_int {i j : Int} (ah : AH) (h1 : 0 < j) (h2 : j < 2 ^ 1000) : oFdiv (.int i) (.int j) ah = .ok (.int (i / j)) ah := by
  unfold oFdiv
  simp only
  have := log2_lt (i := j) (n := 1000) (by decide) (by omega)
  rw [if_pos ⟨h1, by omega⟩]
theorem oMod_int {i j : Int} (ah : AH) (h1 : 0 < j) : oMod (.int i) (.int j) ah = .ok (.int (i % j)) ah := by
  unfold oMod
  simp only
  rw [if_pos h1]
theorem oPow_int {i j : Int} (ah : AH) (h1 : 0 ≤ j ∧ j ≤ 1000000 ∧ i.natAbs < 2 ^ 64) : oPow (.int i) (.int j) ah = .ok (.int (i ^ j.toNat)) ah := by
  unfold oPow
  simp only
  rw [if_pos h1]
@[simp] theorem cEq_int (i j : Int) (ah : AH) : cEq (.int i) (.int j) ah = .ok (decide (i = j)) ah := rfl
@[simp] theorem cEq_str (i j : Str) (ah : AH) : cEq (.str i) (.str j) ah = .ok (decide (i = j)) ah := rfl
@[simp] theorem cEq_bl (i j : Bool) (ah : AH) : cEq (.bl i) (.bl j) ah = .ok (decide (i = j)) ah := rfl
@[simp] theorem cNe_int (i j : Int) (ah : AH) : cNe (.int i) (.int j) ah = .ok (!decide (i = j)) ah := rfl
@[simp] theorem cNe_str (i j : Str) (ah : AH) : cNe (.str i) (.str j) ah = .ok (!decide (i = j)) ah := rfl
@[simp] theorem cNe_bl (i j : Bool) (ah : AH) : cNe (.bl i) (.bl j) ah = .ok (!decide (i = j)) ah := rfl
@[simp] theorem cLt_int (i j : Int) (ah : AH) : cLt (.int i) (.int j) ah = .ok (decide (i < j)) ah := rfl
@[simp] theorem cLe_int (i j : Int) (ah : AH) : cLe (.int i) (.int j) ah = .ok (decide (i ≤ j)) ah := rfl
@[simp] theorem cGt_int (i j : Int) (ah : AH) : cGt (.int i) (.int j) ah = .ok (decide (j < i)) ah := rfl
@[simp] theorem cGe_int (i j : Int) (ah : AH) : cGe (.int i) (.int j) ah = .ok (decide (j ≤ i)) ah := rfl
@[simp] theorem truth_bl (b : Bool) (ah : AH) : truth (.bl b) ah = .ok b ah := rfl
@[simp] theorem truth_non (ah : AH) : truth .non ah = .ok false ah := rfl
@[simp] theorem truth_int (i : Int) (ah : AH) : truth (.int i) ah = .ok (i != 0) ah := rfl
@[simp] theorem oLen_tup (ds : List D) (ah : AH) : oLenA [.tup ds] ah = .ok (.int ds.length) ah := rfl
@[simp] theorem oIsi_def (d : D) (T : String) (ah : AH) : oIsi [d, .cst (.ty T)] ah = match tyName d ah with
  | some a => if T ∈ tyTable then .ok (.bl (tyIs a T)) ah else .stuck
  | none => .stuck := rfl
theorem ixD_nat {α : Type} {xs : List α} {i : Nat} {x : α} (h : xs[i]? = some x) : ixD xs (i : Int) = some x := by
  have hi : i < xs.length := (List.getElem?_eq_some_iff.mp h).1
  unfold ixD ixN
  have e : xs[i] = x := by rw [List.getElem?_eq_getElem hi] at h; exact Option.some.inj h
  simp [hi, e]
theorem oIx_lst {ds : List D} {i n : Nat} {d : D} {ah : AH} (hn : ah[n]? = some (.lst ds)) (h : ds[i]? = some d) : oIx (.ref n) (.int i) ah = .ok d ah := by simp only [oIx, hn, ixD_nat h]
@[simp] theorem okIn_nil (ds : List D) (ah : AH) : (⟨ds, []⟩ : Itm).okIn ah = true := rfl
@[simp] theorem forLoop_nil (t : Itm) (tm : TM) (body : SM) (env : Env) (ah : AH) : forLoop t tm body [] env ah = if t.okIn ah = true then .nx env ah else .stuck := rfl
def SRes.turn (r : SRes) (k : SM) : SRes := match r with
  | .nx env ah => k env ah
  | .ct env ah => k env ah
  | .bk env ah => .nx env ah
  | r => r
@[simp] theorem turn_nx (env : Env) (ah : AH) (k : SM) : (SRes.nx env ah).turn k = k env ah := rfl
@[simp] theorem turn_ct (env : Env) (ah : AH) (k : SM) : (SRes.ct env ah).turn k = k env ah := rfl
@[simp] theorem turn_bk (env : Env) (ah : AH) (k : SM) : (SRes.bk env ah).turn k = .nx env ah := rfl
@[simp] theorem turn_rt (d : D) (ah : AH) (k : SM) : (SRes.rt d ah).turn k = .rt d ah := rfl
@[simp] theorem turn_exn (c : Str) (fs : Option (List (Str × D))) (env : Env) (ah : AH) (k : SM) : (SRes.exn c fs env ah).turn k = .exn c fs env ah := rfl
@[simp] theorem turn_stuck (k : SM) : SRes.stuck.turn k = .stuck := rfl
@[simp] theorem turn_if (c : Prop) [Decidable c] (x y : SRes) (k : SM) : (if c then x else y).turn k = if c then x.turn k else y.turn k := by split <;> rfl
@[simp] theorem forLoop_cons (t : Itm) (tm : TM) (body : SM) (d : D) (ds : List D) (env : Env) (ah : AH) : forLoop t tm body (d :: ds) env ah = if t.okIn ah = true then match tm d env ah with
    | some env1 => (body env1 ah).turn (forLoop t tm body ds)
    | none => .stuck else .stuck := by
  show (if t.okIn ah = true then _ else _) = _
  split
  · cases tm d env ah with
    | none => rfl
    | some env1 => simp only; cases body env1 ah <;> rfl
  · rfl
@[simp] theorem iVal_tup (ds : List D) (ah : AH) : iVal (.tup ds) ah = .ok ⟨ds, []⟩ ah := rfl
@[simp] theorem get_app0 {α : Type} (l r : List α) (a : α) : (l ++ a :: r)[l.length]? = some a := by simp
end HA
namespace HA
open PySem PySem.Spec PyProof.Rows L2
mutual
def tame (B : Nat) : PyData → Bool
  | .none | .bool _ => true
  | .int i => decide (i.natAbs ≤ B)
  | .str x => x.cps.toList.all fun c => decide (c < 16 ^ 8)
  | .list xs | .tuple xs => tames B xs
  | .dict kvs => tameKv B kvs
def tames (B : Nat) : List PyData → Bool
  | [] => true
  | x :: xs => tame B x && tames B xs
def tameKv (B : Nat) : List (PyData × PyData) → Bool
  | [] => true
  | (k, v) :: r => tame B k && tame B v && tameKv B r
end
mutual
theorem tame_leaf {B : Nat} (hB : B < 2 ^ 290) : ∀ p : PyData, tame B p = true → p.leavesShort 300 = true ∧ p.showable = true
  | .none, _ => ⟨rfl, rfl⟩
  | .bool _, _ => ⟨rfl, rfl⟩
  | .int i, h => by
    have h' : i.natAbs ≤ B := by simpa only [tame, decide_eq_true_eq] using h
    have l : i.natAbs.log2 < 290 := log2_lt (by decide) (Nat.lt_of_le_of_lt h' hB)
    simp only [PyData.leavesShort, PyData.showable, decide_eq_true_eq, PyData.shown]
    refine ⟨decide_eq_true ?_, by omega⟩
    rw [PySem.ofString_length]
    exact Nat.le_trans (int_text_length_le (k := 290) (by decide) l) (show 290 + 1 ≤ 300 by decide)
  | .str x, h => by
    simp only [PyData.leavesShort, PyData.showable]
    exact ⟨by simpa only [tame] using h, trivial⟩
  | .list xs, h => by
    simp only [PyData.leavesShort, PyData.showable]
    exact tames_leaf hB xs (by simpa only [tame] using h)
  | .tuple xs, h => by
    simp only [PyData.leavesShort, PyData.showable]
    exact tames_leaf hB xs (by simpa only [tame] using h)
  | .dict kvs, h => by
    simp only [PyData.leavesShort, PyData.showable]
    exact tameKv_leaf hB kvs (by simpa only [tame] using h)
theorem tames_leaf {B : Nat} (hB : B < 2 ^ 290) : ∀ ps : List PyData, tames B ps = true → PyData.leavesShortAll 300 ps = true ∧ PyData.showableAll ps = true
  | [], _ => ⟨rfl, rfl⟩
  | x :: xs, h => by
    simp only [tames, Bool.and_eq_true] at h
    have a := tame_leaf hB x h.1
    have b := tames_leaf hB xs h.2
    simp only [PyData.leavesShortAll, PyData.showableAll, Bool.and_eq_true]
    exact ⟨⟨a.1, b.1⟩, a.2, b.2⟩
theorem tameKv_leaf {B : Nat} (hB : B < 2 ^ 290) : ∀ ps : List (PyData × PyData), tameKv B ps = true → PyData.leavesShortKv 300 ps = true ∧ PyData.showableKv ps = true
  | [], _ => ⟨rfl, rfl⟩
  | (k, v) :: r, h => by
    simp only [tameKv, Bool.and_eq_true] at h
    have a := tame_leaf hB k h.1.1
    have b := tame_leaf hB v h.1.2
    have c := tameKv_leaf hB r h.2
    simp only [PyData.leavesShortKv, PyData.showableKv, Bool.and_eq_true]
    exact ⟨⟨⟨a.1, b.1⟩, c.1⟩, ⟨a.2, b.2⟩, c.2⟩
end
mutual
theorem tame_mono {B C : Nat} (h : B ≤ C) : ∀ p : PyData, tame B p = true → tame C p = true
  | .none, _ => rfl
  | .bool _, _ => rfl
  | .int i, e => by simp only [tame, decide_eq_true_eq] at e ⊢; omega
  | .str x, e => by simpa only [tame] using e
  | .list xs, e => by simp only [tame] at e ⊢; exact tames_mono h xs e
  | .tuple xs, e => by simp only [tame] at e ⊢; exact tames_mono h xs e
  | .dict kvs, e => by simp only [tame] at e ⊢; exact tameKv_mono h kvs e
theorem tames_mono {B C : Nat} (h : B ≤ C) : ∀ ps : List PyData, tames B ps = true → tames C ps = true
  | [], _ => rfl
  | x :: xs, e => by simp only [tames, Bool.and_eq_true] at e ⊢; exact ⟨tame_mono h x e.1, tames_mono h xs e.2⟩
theorem tameKv_mono {B C : Nat} (h : B ≤ C) : ∀ ps : List (PyData × PyData), tameKv B ps = true → tameKv C ps = true
  | [], _ => rfl
  | (k, v) :: r, e => by simp only [tameKv, Bool.and_eq_true] at e ⊢; exact ⟨⟨tame_mono h k e.1.1, tame_mono h v e.1.2⟩, tameKv_mono h r e.2⟩
end
theorem tame_len {B : Nat} (hB : B < 2 ^ 290) {p : PyData} (h : tame B p = true) (hw : p.weight ≤ 50000) : p.shown.length ≤ line := by
  have := PyData.shown_le 300 (by decide) p (tame_leaf hB p h).1
  have : (300 + 2) * p.weight ≤ 302 * 50000 := Nat.mul_le_mul (by decide) hw
  unfold line
  omega
theorem tames_app {B : Nat} : ∀ (xs ys : List PyData), tames B (xs ++ ys) = (tames B xs && tames B ys)
  | [], ys => rfl
  | x :: xs, ys => by simp only [List.cons_append, tames, tames_app xs ys, Bool.and_assoc]
theorem weightAll_app : ∀ (xs ys : List PyData), PyData.weightAll (xs ++ ys) = PyData.weightAll xs + PyData.weightAll ys
  | [], ys => by simp [PyData.weightAll]
  | x :: xs, ys => by simp only [List.cons_append, PyData.weightAll, weightAll_app xs ys]; omega
theorem optAll_app {α β : Type} {f : α → Option β} : ∀ {xs ys : List α} {ps qs : List β}, optAll f xs = some ps → optAll f ys = some qs → optAll f (xs ++ ys) = some (ps ++ qs)
  | [], ys, ps, qs, h1, h2 => by cases h1; exact h2
  | x :: xs, ys, ps, qs, h1, h2 => by
    obtain ⟨b, cs, rfl, e1, e2⟩ := optAll_cons h1
    simp only [List.cons_append, optAll, e1, optAll_app e2 h2]
theorem optAll_mono {α β : Type} {f g : α → Option β} (h : ∀ a b, f a = some b → g a = some b) : ∀ {xs : List α} {ps : List β}, optAll f xs = some ps → optAll g xs = some ps
  | [], ps, h' => by cases h'; rfl
  | x :: xs, ps, h' => by
    obtain ⟨b, cs, rfl, e1, e2⟩ := optAll_cons h'
    simp only [optAll, h _ _ e1, optAll_mono h e2]
def Vis (o : AObj) : Bool := match o with
  | .lst _ | .ro _ | .dK _ => true
  | _ => false
def Le (ah ah' : AH) : Prop := ∀ (i : Nat) (o : AObj), ah[i]? = some o → Vis o = true → ah'[i]? = some o
theorem Le.refl (ah : AH) : Le ah ah := fun _ _ h _ => h
theorem Le.trans {a b c : AH} (h1 : Le a b) (h2 : Le b c) : Le a c := fun i o e v => h2 i o (h1 i o e v) v
theorem Le.app (ah x : AH) : Le ah (ah ++ x) := fun i o e _ => by
  rw [List.getElem?_append_left (List.getElem?_eq_some_iff.mp e).1]; exact e
theorem toP_heap {ah ah' : AH} (h : Le ah ah') : ∀ (f g : Nat) (d : D) (p : PyData), f ≤ g → toP ah f d = some p → toP ah' g d = some p
  | 0, _, _, _, _, e => by cases e
  | f + 1, 0, _, _, l, _ => by omega
  | f + 1, g + 1, d, p, l, e => by
    have ih : ∀ {ds : List D} {ps : List PyData}, optAll (toP ah f) ds = some ps → optAll (toP ah' g) ds = some ps := fun q => optAll_mono (fun a b => toP_heap h f g a b (by omega)) q
    cases d with
    | non => exact e
    | bl b => exact e
    | int i => exact e
    | str x => exact e
    | cst v => cases e
    | glo v => cases e
    | xv a d ks ds => cases e
    | tup ds =>
      simp only [toP, Option.map_eq_some_iff] at e ⊢
      obtain ⟨ps, q, r⟩ := e
      exact ⟨ps, ih q, r⟩
    | ref n =>
      simp only [toP] at e ⊢
      cases q : ah[n]? with
      | none => rw [q] at e; cases e
      | some o =>
        rw [q] at e
        cases o with
        | lst ds =>
          rw [h n _ q rfl]
          simp only [Option.map_eq_some_iff] at e ⊢
          obtain ⟨ps, q, r⟩ := e
          exact ⟨ps, ih q, r⟩
        | ro ds =>
          rw [h n _ q rfl]
          simp only [Option.map_eq_some_iff] at e ⊢
          obtain ⟨ps, q, r⟩ := e
          exact ⟨ps, ih q, r⟩
        | dK kvs =>
          rw [h n _ q rfl]
          simp only [Option.map_eq_some_iff] at e ⊢
          obtain ⟨ps, q, r⟩ := e
          exact ⟨ps, ih q, r⟩
        | dT kvs => cases e
        | ins C fs => cases e
theorem depthAll_le {n : Nat} : ∀ {ps : List PyData}, (∀ p ∈ ps, p.depth ≤ n) → PyData.depthAll ps ≤ n
  | [], _ => Nat.zero_le _
  | p :: ps, h => by
    simp only [PyData.depthAll]
    exact Nat.max_le.mpr ⟨h p (by simp), depthAll_le fun q hq => h q (List.mem_cons_of_mem _ hq)⟩
theorem depthKv_le {n : Nat} : ∀ {ps : List (PyData × PyData)}, (∀ p ∈ ps, p.1.depth ≤ n ∧ p.2.depth ≤ n) → PyData.depthKv ps ≤ n
  | [], _ => Nat.zero_le _
  | (a, b) :: ps, h => by
    simp only [PyData.depthKv]
    exact Nat.max_le.mpr ⟨Nat.max_le.mpr (h (a, b) (by simp)), depthKv_le fun q hq => h q (List.mem_cons_of_mem _ hq)⟩
theorem optAll_mem {α β : Type} {f : α → Option β} : ∀ {xs : List α} {ps : List β}, optAll f xs = some ps → ∀ p ∈ ps, ∃ x ∈ xs, f x = some p
  | [], ps, h, p, hp => by cases h; cases hp
  | x :: xs, ps, h, p, hp => by
    obtain ⟨b, cs, rfl, e1, e2⟩ := optAll_cons h
    rcases List.mem_cons.mp hp with rfl | z
    · exact ⟨x, by simp, e1⟩
    · obtain ⟨y, hy, q⟩ := optAll_mem e2 p z
      exact ⟨y, List.mem_cons_of_mem _ hy, q⟩
theorem toP_depth {ah : AH} : ∀ (f : Nat) (d : D) (p : PyData), toP ah f d = some p → p.depth ≤ f
  | 0, _, _, e => by cases e
  | f + 1, d, p, e => by
    have ih : ∀ {ds : List D} {ps : List PyData}, optAll (toP ah f) ds = some ps → ∀ p ∈ ps, p.depth ≤ f := fun {ds ps} q p hp => by
      obtain ⟨x, _, e⟩ := optAll_mem q p hp
      exact toP_depth f x p e
    cases d with
    | non => cases e; simp [PyData.depth]
    | bl b => cases e; simp [PyData.depth]
    | int i => cases e; simp [PyData.depth]
    | str x => cases e; simp [PyData.depth]
    | cst v => cases e
    | glo v => cases e
    | xv a d ks ds => cases e
    | tup ds =>
      simp only [toP, Option.map_eq_some_iff] at e
      obtain ⟨ps, q, rfl⟩ := e
      simp only [PyData.depth]
      exact Nat.succ_le_succ (depthAll_le (ih q))
    | ref n =>
      simp only [toP] at e
      split at e
      · simp only [Option.map_eq_some_iff] at e
        obtain ⟨ps, q, rfl⟩ := e
        simp only [PyData.depth]
        exact Nat.succ_le_succ (depthAll_le (ih q))
      · simp only [Option.map_eq_some_iff] at e
        obtain ⟨ps, q, rfl⟩ := e
        simp only [PyData.depth]
        exact Nat.succ_le_succ (depthAll_le (ih q))
      · simp only [Option.map_eq_some_iff] at e
        obtain ⟨ps, q, rfl⟩ := e
        simp only [PyData.depth]
        refine Nat.succ_le_succ (depthKv_le fun z hz => ?_)
        obtain ⟨h1, h2⟩ := List.of_mem_zip hz
        refine ⟨?_, ih q _ h2⟩
        obtain ⟨kv, _, hk⟩ := List.mem_map.mp h1
        rw [← hk]
        cases kv.1 <;> simp [keyP, PyData.depth]
      · cases e
def Dat (B : Nat) (ah : AH) (n w : Nat) (d : D) : Prop := ∃ p, toP ah n d = some p ∧ tame B p = true ∧ p.weight ≤ w
theorem Dat.mono {B C : Nat} {ah ah' : AH} {n n' w w' : Nat} {d : D} (h : Dat B ah n w d) (l : Le ah ah') (hB : B ≤ C) (hn : n ≤ n') (hw : w ≤ w') : Dat C ah' n' w' d := by
  obtain ⟨p, e, t, k⟩ := h
  exact ⟨p, toP_heap l n n' d p hn e, tame_mono hB p t, by omega⟩
theorem Dat.repr {B : Nat} {ah : AH} {n w : Nat} {d : D} (h : Dat B ah n w d) (hB : B < 2 ^ 290) (hn : n ≤ 63) (hw : w ≤ 50000) : ∃ s : Str, ∀ ah', Le ah ah' → oRepr [d] ah' = .ok (.str s) ah' := by
  obtain ⟨p, e, t, k⟩ := h
  refine ⟨p.shown, fun ah' l => ?_⟩
  have q : pd ah' d = some p := toP_heap l n 63 d p hn e
  have q0 := toP_depth n d p e
  unfold oRepr
  simp only [q]
  rw [if_pos ⟨(tame_leaf hB p t).2, tame_len hB t (by omega), by omega⟩]
end HA
namespace HA
open PySem PySem.Spec PyProof.Rows L2
theorem eqv_tup_nil (ps : List PyData) : PyData.eqv (.tuple ps) (.tuple []) = ps.isEmpty := by
  cases ps <;> simp [PyData.eqv, PyData.eqvAll]
theorem cEq_tupNil (ds : List D) (ah : AH) : cEq (.tup ds) (.tup []) ah = .ok ds.isEmpty ah := by
  unfold cEq
  simp only
  split
  · rename_i b e
    unfold eqData at e
    split at e
    · rename_i p q e1 e2
      split at e
      · cases e
        have q0 : q = .tuple [] := by
          have : pd ah (.tup []) = some (.tuple []) := rfl
          rw [this] at e2; cases e2; rfl
        have : ∃ ps, optAll (toP ah 62) ds = some ps ∧ PyData.tuple ps = p := by
          simpa [pd, deep, toP, Option.map_eq_some_iff] using e1
        obtain ⟨ps, h1, rfl⟩ := this
        rw [q0, eqv_tup_nil]
        have := optAll_length h1
        cases ds <;> cases ps <;> simp_all
      · cases e
    · cases e
  · simp [eqLen]
@[simp] theorem cNe_tupNil (ds : List D) (ah : AH) : cNe (.tup ds) (.tup []) ah = .ok (!ds.isEmpty) ah := by
  unfold cNe
  rw [cEq_tupNil]
  rfl
theorem cut_head {α : Type} (xs : List α) (i : Nat) : cut xs none (some (i : Int)) = xs.take i := by
  unfold cut
  rw [HT.sIx_none, HT.sIx_nat]
  simp
theorem cut_tail {α : Type} (xs : List α) (i : Nat) : cut xs (some (i : Int)) none = xs.drop i := by
  unfold cut
  rw [HT.sIx_none, HT.sIx_nat]
  by_cases h : i ≤ xs.length
  · rw [Nat.min_eq_left h, List.take_of_length_le (by simp)]
  · rw [Nat.min_eq_right (by omega), List.drop_of_length_le (Nat.le_refl _), List.drop_of_length_le (by omega)]
    simp
@[simp] theorem oCut_head (ds : List D) (i : Nat) (ah : AH) : oCut (.tup ds) none (some (i : Int)) ah = .ok (.tup (ds.take i)) ah := by simp [oCut, cut_head]
@[simp] theorem oCut_tail (ds : List D) (i : Nat) (ah : AH) : oCut (.tup ds) (some (i : Int)) none ah = .ok (.tup (ds.drop i)) ah := by simp [oCut, cut_tail]
@[simp] theorem oCut_tail1 (ds : List D) (i : Nat) (ah : AH) : oCut (.tup ds) (some ((i : Int) + 1)) none ah = .ok (.tup (ds.drop (i + 1))) ah := oCut_tail ds (i + 1) ah
@[simp] theorem oCut_head1 (ds : List D) (i : Nat) (ah : AH) : oCut (.tup ds) none (some ((i : Int) + 1)) ah = .ok (.tup (ds.take (i + 1))) ah := oCut_head ds (i + 1) ah
@[simp] theorem oRevT_tup (ds : List D) (ah : AH) : oRevT (.tup ds) ah = .ok (.tup ds.reverse) ah := rfl
theorem oAdd_tup {xs ys : List D} (ah : AH) (h : xs.length + ys.length ≤ line) : oAdd (.tup xs) (.tup ys) ah = .ok (.tup (xs ++ ys)) ah := by simp [oAdd, h]
theorem Dat.tup {B : Nat} {ah : AH} {n w : Nat} {ds : List D} {ps : List PyData} (h : optAll (toP ah n) ds = some ps) (t : tames B ps = true) (hw : PyData.weightAll ps ≤ w) : Dat B ah (n + 1) w (.tup ds) :=
  ⟨.tuple ps, by simp [toP, h], by simpa [tame] using t, by simpa [PyData.weight] using hw⟩
theorem Dat.lst {B : Nat} {ah : AH} {n w m : Nat} {ds : List D} {ps : List PyData} (hm : ah[m]? = some (.lst ds)) (h : optAll (toP ah n) ds = some ps) (t : tames B ps = true) (hw : PyData.weightAll ps ≤ w) : Dat B ah (n + 1) w (.ref m) :=
  ⟨.list ps, by simp [toP, hm, h], by simpa [tame] using t, by simpa [PyData.weight] using hw⟩
theorem ofString_signs (s : String) : ((Str.ofString s).cps.toList.all fun c => decide (c < 16 ^ 8)) = true := by
  rw [Str.ofString_eq_toList, List.all_eq_true]
  intro c hc
  simp only [List.mem_map] at hc
  obtain ⟨ch, _, rfl⟩ := hc
  rw [decide_eq_true_eq]
  have := ch.val.toNat_lt
  exact this
end HA
namespace HA
open PySem PySem.Spec PyProof.Rows L2
@[simp] theorem iRange1_nat (n : Nat) (ah : AH) (h : n < 2 ^ 62 := by decide) : iRange1 (.int n) ah = .ok ⟨(List.range n).map fun (i : Nat) => D.int i, []⟩ ah := by
  unfold iRange1
  simp only
  rw [if_pos (by omega)]
  simp
end HA
namespace HA
open PySem PySem.Spec PyProof.Rows L2
section
variable (ah : AH) (f : Nat)
@[simp] theorem toP_non : toP ah (f + 1) .non = some .none := rfl
@[simp] theorem toP_bl (b : Bool) : toP ah (f + 1) (.bl b) = some (.bool b) := rfl
@[simp] theorem toP_int (i : Int) : toP ah (f + 1) (.int i) = some (.int i) := rfl
@[simp] theorem toP_str (x : Str) : toP ah (f + 1) (.str x) = some (.str x) := rfl
theorem toP_tup (ds : List D) : toP ah (f + 1) (.tup ds) = (optAll (toP ah f) ds).map .tuple := rfl
end
end HA
namespace HA
open PySem PySem.Spec PyProof.Rows L2
end HA
namespace HA
open PySem PySem.Spec PyProof.Rows L2 RT
section
variable {prog : Program} {w : World} {A : Around} {E : Value → Shared → Prop} {s : Shared} {R : Result → Shared → Prop}
end
section
variable {X : Cx} {W : WX} {e : Expr} {ml : EM (List D)}
def tListRev (K : PySem.W.Frag) (te : TE) : TE := fun σ H Q => te σ H fun v H1 => ∃ (a : Addr) (xs : List V), v = .ref a ∧ SqL K H1 a xs ∧ ∀ q, H1 q = none → Q (.ref q) (upd H1 q (.lst xs.reverse))
end
end HA
namespace HA
open PySem PySem.Spec PyProof.Rows L2 RT
section
variable {prog : Program} {w : World} {A : Around} {E : Value → Shared → Prop} {s : Shared} {R : Result → Shared → Prop}
end
section
variable {X : Cx} {W : WX} {pos : Pos}
def gStar (K : PySem.W.Frag) (n : Nat) (t : TGs) : TG := fun v σ H Q => ∃ a xs, v = .ref a ∧ SqT K H a xs ∧ n ≤ xs.length ∧ ∀ p, H p = none → t (xs.take n ++ [.ref p]) σ (upd H p (.lst (xs.drop n))) Q
end
end HA
namespace HA
open PySem PySem.Spec PyProof.Rows L2
abbrev TMX := D → HA.Env → AH → Option (HA.Env × AH)
def tGtX (K : PySem.W.Frag) (ts : List Nat) (tm : TMX) : TG := fun v σ H Q => ∃ μ env ah d p, EnvRel K μ H env σ ∧ Sim K μ H ah ∧ Rep K μ H d v ∧ tm d env ah = some p ∧ ∀ μ' σ' H', Ext K μ H μ' H' → Sim K μ' H' p.2 → EnvRel K μ' H' p.1 σ' → But ts σ σ' → Q σ' H'
def PTX (X : Cx) (tg : Expr) (ts : List Nat) (tm : TMX) : Prop := PG X tg (tGtX X.K ts tm)
def gStarD (n : Nat) (u : List D → HA.Env → AH → Option HA.Env) : TMX := fun d env ah => match d with
  | .tup ds => if n ≤ ds.length then (u (ds.take n ++ [.ref ah.length]) env (ah ++ [.lst (ds.drop n)])).map fun env1 => (env1, ah ++ [.lst (ds.drop n)]) else none
  | _ => none
def forLoopX (t : Itm) (tm : TMX) (body : SM) : List D → HA.Env → AH → SRes
  | [], env, ah => if t.okIn ah = true then .nx env ah else .stuck
  | d :: ds, env, ah => if t.okIn ah = true then match tm d env ah with
    | some p => (body p.1 p.2).turn (forLoopX t tm body ds)
    | none => .stuck else .stuck
def sForX (mi : EM Itm) (tm : TMX) (body : SM) : SM := fun env ah => (mi env ah).thenS env fun t ah1 => forLoopX t tm body t.items env ah1
def sAsgX (m : EM D) (tm : TMX) : SM := fun env ah => (m env ah).thenS env fun d ah1 => match tm d env ah1 with
  | some p => .nx p.1 p.2
  | none => .stuck
section
variable {X : Cx} {W : WX} {e tg : Expr} {es es' : List Expr} {m : EM D} {pos : Pos} {ts : List Nat} {n : Nat}
def unStar : List Expr → List Expr
  | [] => []
  | .Starred t _ :: r => t :: unStar r
  | e :: r => e :: unStar r
end
end HA
namespace HA
open PySem PySem.Spec PyProof.Rows L2
def maxOf : List Int → Int → Int
  | [], d => d
  | n :: ns, _ => ns.foldl max n
def oMaxD (xs zs : List D) (ah : AH) : Res D := match xs, zs with
  | [.ref n], [.int k] => match listAt ah n with
    | some ds => match optAll dInt ds with
      | some ns => .ok (.int (maxOf ns k)) ah
      | none => .stuck
    | none => .stuck
  | _, _ => .stuck
end HA
namespace HA
open PySem PySem.Spec PyProof.Rows L2
section
variable {X : Cx}
def oMulT (x y : D) (ah : AH) : Res D := match x, y with
  | .tup xs, .int 1 => .ok (.tup xs) ah
  | .tup xs, .int 0 => if xs ≠ [] then .ok (.tup []) ah else .stuck
  | x, y => oMul x y ah
end
end HA
namespace HA
open PySem PySem.Spec PyProof.Rows L2
def putAt (n : Nat) (y : D) (ah : AH) : Option AH := match ah[n]? with
  | some (.lst acc) => if acc.length < line then some (ah.set n (.lst (acc ++ [y]))) else none
  | _ => none
def lcH (n : Nat) (t : Itm) (tm : TM) (test : EM Bool) (elt : EM D) (vs : List Nat) (env : HA.Env) : List D → AH → Option AH
  | [], ah => if t.okIn ah = true then some ah else none
  | d :: ds, ah => if t.okIn ah = true then match tm d (wipeE env vs) ah with
    | some env1 => match test env1 ah with
      | .ok true ah1 => match elt env1 ah1 with
        | .ok y ah2 => match putAt n y ah2 with
          | some ah3 => lcH n t tm test elt vs env ds ah3
          | none => none
        | _ => none
      | .ok false ah1 => lcH n t tm test elt vs env ds ah1
      | _ => none
    | none => none else none
def lcH2 (n : Nat) (t : Itm) (tm : TM) (test : EM Bool) (mi1 : EM Itm) (tm1 : TM) (test1 : EM Bool) (elt : EM D) (vs vs1 : List Nat) (env : HA.Env) : List D → AH → Option AH
  | [], ah => if t.okIn ah = true then some ah else none
  | d :: ds, ah => if t.okIn ah = true then match tm d (wipeE env vs) ah with
    | some env1 => match test env1 ah with
      | .ok true ah1 => match mi1 env1 ah1 with
        | .ok t1 ah2 => match lcH n t1 tm1 test1 elt vs1 env1 t1.items ah2 with
          | some ah3 => lcH2 n t tm test mi1 tm1 test1 elt vs vs1 env ds ah3
          | none => none
        | _ => none
      | .ok false ah1 => lcH2 n t tm test mi1 tm1 test1 elt vs vs1 env ds ah1
      | _ => none
    | none => none else none
def eLc2 (mi : EM Itm) (tm : TM) (test : EM Bool) (mi1 : EM Itm) (tm1 : TM) (test1 : EM Bool) (elt : EM D) (vs vs1 : List Nat) : EM D := fun env ah => (mi env ah).bind fun t ah1 => match lcH2 ah1.length t tm test mi1 tm1 test1 elt vs vs1 env t.items (ah1 ++ [.lst []]) with
  | some ah2 => .ok (.ref ah1.length) ah2
  | none => .stuck
section
variable {X : Cx} {W : WX}
theorem putAt_run {K : PySem.W.Frag} {n : Nat} {y : D} {v : V} {ah ah' : AH} {μ : List Addr} {H : Hp} {p : Addr} (S : Sim K μ H ah) (ep : μ[n]? = some p) (ry : Rep K μ H y v) (e : putAt n y ah = some ah') :
    ∃ avs, H p = some (.lst avs) ∧ avs.length < sizeLine ∧ Ext K μ H μ (upd H p (.lst (avs ++ [v]))) ∧ Sim K μ (upd H p (.lst (avs ++ [v]))) ah' := by
  unfold putAt at e
  split at e
  · rename_i acc q
    split at e
    · rename_i hl
      cases e
      obtain ⟨avs, h1, r⟩ := S.ok n p _ ep q
      have hn : n ≠ 0 := fun z => by
        have := (S.ro0 n _ q).mpr z
        cases this
      have mu : Mut (H p) := (S.ok n p _ ep q).there rfl
      refine ⟨avs, h1, Nat.lt_of_lt_of_le (by rw [← r.length]; exact hl) (line_le (Nat.le_refl _)), Ext.put ep hn mu, ?_⟩
      exact S.put ep q rfl rfl fun ht => ⟨avs ++ [v], upd_same, Reps.mono (List.prefix_refl _) ht _ _ (r.append (Reps.cons ry Reps.nil))⟩
    · cases e
  · cases e
theorem lc2_step {σ : L2.St} {H : Hp} {Q : VK} {mi mi1 : EM Itm} {ts ts1 vs vs1 : List Nat} {tm tm1 : TM} {mt mt1 : EM Bool} {me : EM D} (hts : ∀ j ∈ ts, j ∈ vs) (hts1 : ∀ j ∈ ts1, j ∈ vs1) (h : tG X.K (RD X.K) W (eLc2 mi tm mt mi1 tm1 mt1 me vs vs1) σ H Q) :
    tLc2 (tG X.K (RI X.K) W mi) (tGt X.K ts tm) (tG X.K RB W0 mt) (tG X.K (RI X.K) W0 mi1) (tGt X.K ts1 tm1) (tG X.K RB W0 mt1) (tG X.K (RD X.K) W0 me) vs vs1 σ H Q := by
  obtain ⟨μ, env, ah, he, hs, hp⟩ := h
  refine ⟨μ, env, ah, he, hs, hp.bind0 fun t ah1 μ1 J H1 e1 s1 r1 p1 => ?_⟩
  have ok1 : ItOk X.K μ1 H1 t J := r1
  intro p np
  have p1 := Post.ext e1 p1
  have h0 : H p = none := e1.there p np
  cases qL : lcH2 ah1.length t tm mt mi1 tm1 mt1 me vs vs1 env t.items (ah1 ++ [.lst []]) with
  | none => rw [qL] at p1; exact p1.elim
  | some ah2 =>
  rw [qL] at p1
  dsimp only at p1
  have sN : Sim X.K (μ1 ++ [p]) (upd H1 p (.lst [])) (ah1 ++ [.lst []]) := s1.new np rfl ⟨[], upd_same, Reps.nil⟩
  have eN : Ext X.K μ1 H1 (μ1 ++ [p]) (upd H1 p (.lst [])) := Ext.ours np s1.mpos
  have pN : (μ1 ++ [p])[ah1.length]? = some p := by rw [← s1.len]; simp
  refine ⟨fun i n H' => ∃ μ' ah', Ext X.K μ1 H1 μ' H' ∧ Sim X.K μ' H' ah' ∧ μ'[ah1.length]? = some p ∧ lcH2 ah1.length t tm mt mi1 tm1 mt1 me vs vs1 env (t.items.drop i) ah' = some ah2 ∧ i + n = t.items.length,
    ⟨t.items.length, μ1 ++ [p], ah1 ++ [.lst []], eN, sN, pN, by rw [List.drop_zero]; exact qL, by omega⟩, ?_⟩
  rintro i n H' ⟨μ', ah', ex, S, hm, po, hn⟩
  by_cases hi : i < t.items.length
  · have ed : t.items[i]? = some t.items[i] := List.getElem?_eq_getElem hi
    rw [List.drop_eq_getElem_cons hi] at po
    unfold lcH2 at po
    split at po
    · rename_i okb
      obtain ⟨go, yl⟩ := (ok1 i μ' H' ah' ex S okb).2 _ ed
      refine .inr ⟨go, fun H2 => ∃ μ' ah', Ext X.K μ1 H1 μ' H2 ∧ Sim X.K μ' H2 ah' ∧ μ'[ah1.length]? = some p ∧ lcH2 ah1.length t tm mt mi1 tm1 mt1 me vs vs1 env (t.items.drop (i + 1)) ah' = some ah2 ∧ i + 1 + (n - 1) = t.items.length, fun H2 h => ⟨n - 1, by omega, h⟩, fun x H'' y => ?_⟩
      obtain ⟨ex2, S2, rx⟩ := yl x H'' y
      split at po
      · rename_i env1 et
        refine ⟨μ', wipeE env vs, ah', _, env1, (wipe_rel (he.ext (e1.trans (ex.trans ex2))) vs), S2, rx, et, fun σ2 he2 b2 => ?_⟩
        refine ⟨by rw [wipe_but b2 hts, wipe_wipe], ?_⟩
        cases qt : mt env1 ah' with
        | ok b ah3 =>
          rw [qt] at po
          cases b with
          | false =>
            refine ⟨μ', env1, ah', he2, S2, Post.only qt fun μ3 b3 H3 x3 s3 r3 => ?_⟩
            cases (show false = b3 from r3)
            rw [if_neg Bool.false_ne_true]
            exact ⟨μ3, ah3, (ex.trans ex2).trans x3, s3, pre_get x3.pre hm, po, by omega⟩
          | true =>
            refine ⟨μ', env1, ah', he2, S2, Post.only qt fun μ3 b3 H3 x3 s3 r3 => ?_⟩
            cases (show true = b3 from r3)
            rw [if_pos rfl]
            dsimp only at po
            cases qm : mi1 env1 ah3 with
            | exn c fs a3 => rw [qm] at po; cases po
            | stuck => rw [qm] at po; cases po
            | ok t1 ah4 =>
              rw [qm] at po
              dsimp only at po
              refine ⟨μ3, env1, ah3, he2.ext x3, s3, Post.only qm fun μ4 J1 H4 x4 s4 r4 => ?_⟩
              have ok4 : ItOk X.K μ4 H4 t1 J1 := r4
              have ex4 := ((ex.trans ex2).trans x3).trans x4
              have hm4 : μ4[ah1.length]? = some p := pre_get x4.pre (pre_get x3.pre hm)
              cases ql : lcH ah1.length t1 tm1 mt1 me vs1 env1 t1.items ah4 with
              | none => rw [ql] at po; cases po
              | some ah5 =>
                rw [ql] at po
                dsimp only at po
                refine ⟨fun j k H5 => ∃ μ5 ahI, Ext X.K μ4 H4 μ5 H5 ∧ Sim X.K μ5 H5 ahI ∧ μ5[ah1.length]? = some p ∧ lcH ah1.length t1 tm1 mt1 me vs1 env1 (t1.items.drop j) ahI = some ah5 ∧ j + k = t1.items.length,
                  ⟨t1.items.length, μ4, ah4, Ext.refl, s4, hm4, by rw [List.drop_zero]; exact ql, by omega⟩, ?_⟩
                rintro j k H5 ⟨μ5, ahI, exI, SI, hmI, qI, hk⟩
                by_cases hj : j < t1.items.length
                · have ed1 : t1.items[j]? = some t1.items[j] := List.getElem?_eq_getElem hj
                  rw [List.drop_eq_getElem_cons hj] at qI
                  unfold lcH at qI
                  split at qI
                  · rename_i okj
                    obtain ⟨go1, yl1⟩ := (ok4 j μ5 H5 ahI exI SI okj).2 _ ed1
                    refine .inr ⟨go1, fun H6 => ∃ μ5 ahI, Ext X.K μ4 H4 μ5 H6 ∧ Sim X.K μ5 H6 ahI ∧ μ5[ah1.length]? = some p ∧ lcH ah1.length t1 tm1 mt1 me vs1 env1 (t1.items.drop (j + 1)) ahI = some ah5 ∧ j + 1 + (k - 1) = t1.items.length, fun H6 h => ⟨k - 1, by omega, h⟩, fun x1 H6 y1 => ?_⟩
                    obtain ⟨ex6, S6, rx6⟩ := yl1 x1 H6 y1
                    split at qI
                    · rename_i env2 et2
                      refine ⟨μ5, wipeE env1 vs1, ahI, _, env2, (wipe_rel (he2.ext (x3.trans (x4.trans (exI.trans ex6)))) vs1), S6, rx6, et2, fun σ3 he3 b3 => ?_⟩
                      refine ⟨by rw [wipe_but b3 hts1, wipe_wipe], ?_⟩
                      cases qt1 : mt1 env2 ahI with
                      | ok b ah6 =>
                        rw [qt1] at qI
                        cases b with
                        | false =>
                          refine ⟨μ5, env2, ahI, he3, S6, Post.only qt1 fun μ7 b7 H7 x7 s7 r7 => ?_⟩
                          cases (show false = b7 from r7)
                          rw [if_neg Bool.false_ne_true]
                          exact ⟨μ7, ah6, (exI.trans ex6).trans x7, s7, pre_get x7.pre hmI, qI, by omega⟩
                        | true =>
                          refine ⟨μ5, env2, ahI, he3, S6, Post.only qt1 fun μ7 b7 H7 x7 s7 r7 => ?_⟩
                          cases (show true = b7 from r7)
                          rw [if_pos rfl]
                          dsimp only at qI
                          cases qe : me env2 ah6 with
                          | exn c fs a3 => rw [qe] at qI; cases qI
                          | stuck => rw [qe] at qI; cases qI
                          | ok y ah7 =>
                            rw [qe] at qI
                            dsimp only at qI
                            cases qp : putAt ah1.length y ah7 with
                            | none => rw [qp] at qI; cases qI
                            | some ah8 =>
                              rw [qp] at qI
                              refine ⟨μ7, env2, ah6, he3.ext x7, s7, Post.only qe fun μ8 y8 H8 x8 s8 r8 => ?_⟩
                              have hm8 : μ8[ah1.length]? = some p := pre_get x8.pre (pre_get x7.pre hmI)
                              obtain ⟨avs, a1, a2, a3, a4⟩ := putAt_run s8 hm8 (show Rep X.K μ8 H8 y y8 from r8) qp
                              exact ⟨avs, a1, a2, μ8, ah8, (((exI.trans ex6).trans x7).trans x8).trans a3, a4, hm8, qI, by omega⟩
                      | exn c fs a3 => rw [qt1] at qI; cases qI
                      | stuck => rw [qt1] at qI; cases qI
                    · cases qI
                  · cases qI
                · have ez : t1.items.drop j = [] := List.drop_eq_nil_of_le (by omega)
                  rw [ez] at qI
                  unfold lcH at qI
                  split at qI
                  · rename_i okj
                    cases qI
                    exact .inl ⟨(ok4 j μ5 H5 _ exI SI okj).1 (by omega), μ5, _, ex4.trans exI, SI, hmI, po, by omega⟩
                  · cases qI
        | exn c fs a3 => rw [qt] at po; cases po
        | stuck => rw [qt] at po; cases po
      · cases po
    · cases po
  · have ez : t.items.drop i = [] := List.drop_eq_nil_of_le (by omega)
    rw [ez] at po
    unfold lcH2 at po
    split at po
    · rename_i okb
      cases po
      refine .inl ⟨(ok1 i μ' H' _ ex S okb).1 (by omega), ?_⟩
      exact p1 μ' _ H' ex S (show Rep X.K μ' H' (.ref ah1.length) (.ref p) by simp only [Rep]; exact ⟨p, hm, rfl⟩)
    · cases po
variable {elt tg iter tg1 iter1 : Expr} {ifs ifs1 : List Expr} {scope : Scope} {own : List (Str × Nat)} {vs vs1 : List Nat} {pos : Pos} {mi mi1 : EM Itm} {tm tm1 : TM} {ts ts1 : List Nat} {mt mt1 : EM Bool} {me : EM D}
theorem pd_lc2 (hc : X.calm = true) (hN : X.N.Nodup) (hi : PF X W tg iter mi) (ok : BlkOk X.N X.env.scope scope own) (hv : own.map (·.2) = vs) (hts : ∀ j ∈ ts, j ∈ own.map (·.2)) (hv1 : ∀ i ∈ vs1, i ∈ own.map (·.2)) (hts1 : ∀ j ∈ ts1, j ∈ vs1)
    (hg : ∀ (s : Shared) (H : Hp) (C : Addr) (cl : List (Str × Addr)) (fp : List Addr), PT1 (X.blk s H scope (compEnvC scope cl C X.env) fp) tg ts tm) (ht : ∀ (s : Shared) (H : Hp) (C : Addr) (cl : List (Str × Addr)) (fp : List Addr), PTsD (X.blk s H scope (compEnvC scope cl C X.env) fp) W0 ifs mt)
    (hi1 : ∀ (s : Shared) (H : Hp) (C : Addr) (cl : List (Str × Addr)) (fp : List Addr), PF (X.blk s H scope (compEnvC scope cl C X.env) fp) W0 tg1 iter1 mi1)
    (hg1 : ∀ (s : Shared) (H : Hp) (C : Addr) (cl : List (Str × Addr)) (fp : List Addr), PT1 (X.blk s H scope (compEnvC scope cl C X.env) fp) tg1 ts1 tm1) (ht1 : ∀ (s : Shared) (H : Hp) (C : Addr) (cl : List (Str × Addr)) (fp : List Addr), PTsD (X.blk s H scope (compEnvC scope cl C X.env) fp) W0 ifs1 mt1)
    (he : ∀ (s : Shared) (H : Hp) (C : Addr) (cl : List (Str × Addr)) (fp : List Addr), PD (X.blk s H scope (compEnvC scope cl C X.env) fp) W0 elt me) (hs : ∀ x, foldedSetIterable iter X.env x = pure x := by intro _; rfl) (hs1 : ∀ env x, foldedSetIterable iter1 env x = pure x := by intro _ _; rfl) :
    PD X W (.ListComp elt [⟨tg, iter, ifs, 0⟩, ⟨tg1, iter1, ifs1, 0⟩] scope pos) (eLc2 mi tm mt mi1 tm1 mt1 me vs vs1) := by
  subst hv
  exact PE.weak (pe_lc2 (g := tGt X.K ts tm) (tt := tG X.K RB W0 mt) (wi1 := tG X.K (RI X.K) W0 mi1) (g1 := tGt X.K ts1 tm1) (tt1 := tG X.K RB W0 mt1) (te := tG X.K (RD X.K) W0 me) hc hN hi ok hv1 hg ht hi1 hg1 ht1 he hs hs1) fun _ _ _ q => lc2_step hts hts1 q
end
end HA
namespace HZ
open PySem
open PySem.Sem (wp)
abbrev ZipRec (h : Heap) (z TI TO : Addr) (f0 : Value) : Prop := h.get? z = some { cls := .type "zip", dict := none, data := .fields #[f0, .bool false, .bool true, .ref TI, .ref TO], slots := #[] }
section
variable {prog : Program} {w : World} {A : Around} {E : Value → Shared → Prop} {s : Shared} {z TI TO i1 i2 it : Addr} {fp fp1 fp2 : List Addr} {n n1 n2 i : Nat} {P P1 P2 : Nat → Value → Prop} {St St1 St2 : Nat → Heap → Prop} {a1 a2 : Value}
end
abbrev kwS : List (Str × Value) := [("strict", .bool true)]
abbrev made (h : Heap) (o1 o2 : Obj) : Heap := (gzO2 h o1 o2).push { cls := .type "zip", data := .fields #[.none, .bool false, .bool true, .ref ((h.push o1).push o2).objs.size, .ref (gzT2 h o1 o2).objs.size] }
section
variable {prog : Program} {w : World} {A : Around} {E : Value → Shared → Prop} {s : Shared}
end
end HZ
namespace HZ
open PySem PySem.Spec PyProof.Rows L2
abbrev zrec (st : Bool) (h : Heap) (z TI TO : Addr) (f0 : Value) : Prop := h.get? z = some { cls := .type "zip", dict := none, data := .fields #[f0, .bool false, .bool st, .ref TI, .ref TO], slots := #[] }
def PIter (k : Bool) (h : Heap) (it l : Addr) (i : Nat) : Prop := if k = true then h.IsTupleIter it l i else h.IsListIter it l i
def PSeq (k : Bool) (h : Heap) (l : Addr) (xs : Array Value) : Prop := if k = true then h.IsTuple l xs else h.IsList l xs
def pobj (k : Bool) (l : Addr) : Obj := { cls := .type (if k = true then "tuple_iterator" else "list_iterator"), data := .fields #[.ref l, .int 0 0] }
theorem PIter.at {k : Bool} {h h' : Heap} {it l : Addr} {i : Nat} (st : PIter k h it l i) (e : ∀ o, h.get? it = some o → h'.get? it = some o) : PIter k h' it l i := by
  cases k
  · exact Heap.IsListIter.at st e
  · exact Heap.IsTupleIter.at st e
theorem PIter.live {k : Bool} {h : Heap} {it l : Addr} {i : Nat} (st : PIter k h it l i) : ∃ o, h.get? it = some o ∧ ∀ v, o.data ≠ .cell v := by
  cases k
  · obtain ⟨o, e, _, d⟩ := st; exact ⟨o, e, fun v q => by rw [d] at q; cases q⟩
  · obtain ⟨o, e, _, d⟩ := st; exact ⟨o, e, fun v q => by rw [d] at q; cases q⟩
theorem drawsP {k : Bool} {prog : Program} {w : World} {A : Around} (hh : A.handled = none) (it l : Addr) (hne : l ≠ it) (items : Array Value) :
    Draws prog w A it [it, l] items.size (fun i v => items[i]? = some v) (fun i h => PIter k h it l i ∧ PSeq k h l items) := by
  cases k
  · exact Draws.list hh it l hne items
  · exact Draws.tuple hh it l hne items
theorem beginsP (k : Bool) (l : Addr) (items : Array Value) : Begins (.ref l) (pobj k l) fun h => PSeq k h l items := by
  cases k
  · exact begins_list l items
  · exact begins_tuple l items
section
variable {prog : Program} {w : World} {A : Around} {E : Value → Shared → Prop} {s : Shared} {z TI TO i1 i2 it : Addr} {fp fp1 fp2 : List Addr} {n n1 n2 i : Nat} {P P1 P2 : Nat → Value → Prop} {St St1 St2 : Nat → Heap → Prop} {a1 a2 : Value} {st : Bool}
end
def PtAt (K : PySem.W.Frag) (H : Hp) (p : Bool × Addr) (xs : List V) : Prop := if p.1 = true then SqT K H p.2 xs else SqL K H p.2 xs
section
variable {X : Cx} {pins : List (Addr × Obj)} {σ : L2.St} {H : Hp} {s : Shared} {p : Bool × Addr} {xs ys : List V}
theorem ptAt (I : Inv X pins σ H s) (h : PtAt X.K H p xs) : ∃ its : List Value, Vals xs its ∧ PSeq p.1 s.heap p.2 its.toArray := by
  obtain ⟨k, a⟩ := p
  cases k
  · obtain ⟨its, r, q, _⟩ := I.list h
    exact ⟨its, r, q.isList⟩
  · obtain ⟨its, r, q, _⟩ := I.tuple h
    exact ⟨its, r, q⟩
theorem pt_inj (I : Inv X pins σ H s) (h : PtAt X.K H p xs) (h' : PtAt X.K H p ys) : xs = ys := by
  obtain ⟨k, a⟩ := p
  cases k
  · exact I.list_inj h h'
  · exact I.tuple_inj h h'
theorem PSeq.lt {k : Bool} {h : Heap} {l : Addr} {its : Array Value} (q : PSeq k h l its) : l < h.objs.size := by
  cases k
  · obtain ⟨o, e, _⟩ := q; exact Heap.lt_size e
  · obtain ⟨o, e, _⟩ := q; exact Heap.lt_size e
end
def Itq (K : PySem.W.Frag) (st : Bool) (N : Nat) (p q : Bool × Addr) : It :=
  ⟨fun i H => i < N ∧ ∃ (xs ys : List V) (x y : V), PtAt K H p xs ∧ PtAt K H q ys ∧ xs[i]? = some x ∧ ys[i]? = some y,
    fun i H v H' => ∃ T x y, v = .ref T ∧ H T = none ∧ H' = upd H T (.tup [x, y]) ∧ (∀ xs, PtAt K H p xs → xs[i]? = some x) ∧ ∀ ys, PtAt K H q ys → ys[i]? = some y,
    fun i H => N ≤ i ∧ ∃ xs ys : List V, PtAt K H p xs ∧ PtAt K H q ys ∧ N ≤ xs.length ∧ N ≤ ys.length ∧ (N = xs.length ∨ N = ys.length) ∧ (st = true → N = xs.length ∧ N = ys.length)⟩
def ZipOk (K : PySem.W.Frag) (st : Bool) (vs : List V) (H1 : Hp) (R : It → Hp → Prop) : Prop := ∃ (p q : Bool × Addr) (N : Nat) (xs ys : List V), vs = [.ref p.2, .ref q.2] ∧ PtAt K H1 p xs ∧ PtAt K H1 q ys ∧ R (Itq K st N p q) H1
end HZ
namespace HA
open PySem PySem.Spec PyProof.Rows L2
def partOf (d : D) (ah : AH) : Option (List D × List (Nat × List D)) := match d with
  | .tup ds => some (ds, [])
  | .ref n => (listAt ah n).map fun ds => (ds, [(n, ds)])
  | _ => none
def pairsD (xs ys : List D) : List D := (xs.zip ys).map fun p => .tup [p.1, p.2]
def iZipD (st : Bool) (d e : D) (ah : AH) : Res Itm := match partOf d ah, partOf e ah with
  | some (xs, g), some (ys, g') => if st = true ∧ xs.length ≠ ys.length then .stuck else .ok ⟨pairsD xs ys, g ++ g'⟩ ah
  | _, _ => .stuck
theorem part_at {K : PySem.W.Frag} {μ : List Addr} {H : Hp} {ah : AH} {d : D} {v : V} {ds : List D} {g : List (Nat × List D)} (S : Sim K μ H ah) (r : Rep K μ H d v) (e : partOf d ah = some (ds, g)) :
    ∃ p : Bool × Addr, v = .ref p.2 ∧ ∀ μ' H' ah', Ext K μ H μ' H' → Sim K μ' H' ah' → (g.all fun q => decide (listAt ah' q.1 = some q.2)) = true → ∃ xs, HZ.PtAt K H' p xs ∧ Reps K μ' H' ds xs := by
  unfold partOf at e
  split at e
  · cases e
    obtain ⟨a, vs, rfl, q, rr⟩ := d_tup r
    exact ⟨(true, a), rfl, fun μ' H' ah' x S' _ => ⟨vs, x.tup.1 a vs q, rr.ext x⟩⟩
  · rename_i n
    rw [Option.map_eq_some_iff] at e
    obtain ⟨ds', el, e⟩ := e
    cases e
    obtain ⟨a, ea, rfl⟩ := d_ref r
    refine ⟨(false, a), rfl, fun μ' H' ah' x S' o => ?_⟩
    simp only [List.all_cons, List.all_nil, Bool.and_true, decide_eq_true_eq] at o
    obtain ⟨b, vs, eb, q, rr⟩ := S'.list o
    rw [pre_get x.pre ea] at eb; cases eb
    exact ⟨vs, q, rr⟩
  · cases e
section
variable {X : Cx} {W : WX} {e f : Expr} {m m2 : EM D} {p pos tpos kpos : Pos} {elts : List Expr} {kk : Nat} {kws : List Keyword}
end
end HA
namespace HA
open PySem PySem.Spec PyProof.Rows L2
def rSortQ (K : PySem.W.Frag) : List V → Hp → VK → Prop := fun vs H Q => ∃ (a : Addr) (xs : List V) (k : V → Int × Int), vs = [V.ref a] ∧ SqL K H a xs ∧ (∀ x ∈ xs, ∃ t, x = V.ref t ∧ SqT K H t [.int (k x).1, .int (k x).2]) ∧
  ∀ ys p, SrtO.Srtd (ltP k) ys → SrtO.Stb (ltP k) ys xs → H p = none → Q (.ref p) (upd H p (.lst ys))
def pairOf : D → Option (Int × Int)
  | .tup [.int a, .int b] => some (a, b)
  | _ => none
def ofPair (p : Int × Int) : D := .tup [.int p.1, .int p.2]
def lexLe (p q : Int × Int) : Bool := decide (p.1 < q.1 ∨ p.1 = q.1 ∧ p.2 ≤ q.2)
def intLe (p q : Int) : Bool := decide (p ≤ q)
def lSort (ds : List D) (ah : AH) : Res (List D) := match optAll dInt ds with
  | some ns => .ok ((ns.mergeSort intLe).map D.int) ah
  | none => match optAll pairOf ds with
    | some ps => .ok ((ps.mergeSort lexLe).map ofPair) ah
    | none => .stuck
def PrAt (K : PySem.W.Frag) (H : Hp) (x : V) (p : Int × Int) : Prop := ∃ t, x = V.ref t ∧ SqT K H t [.int p.1, .int p.2]
inductive PrAll (K : PySem.W.Frag) (H : Hp) : List V → List (Int × Int) → Prop
  | nil : PrAll K H [] []
  | cons {x xs p ps} : PrAt K H x p → PrAll K H xs ps → PrAll K H (x :: xs) (p :: ps)
def rSortR (K : PySem.W.Frag) : List V → Hp → VK → Prop := fun vs H Q => ∃ (a : Addr) (xs : List V) (ps : List (Int × Int)), vs = [V.ref a] ∧ SqL K H a xs ∧ PrAll K H xs ps ∧
  ∀ ys p, PrAll K H ys (ps.mergeSort lexLe) → H p = none → Q (.ref p) (upd H p (.lst ys))
theorem PrAll.map {K : PySem.W.Frag} {H : Hp} {k : V → Int × Int} : ∀ {xs : List V}, (∀ x ∈ xs, PrAt K H x (k x)) → PrAll K H xs (xs.map k)
  | [], _ => .nil
  | x :: xs, h => .cons (h x List.mem_cons_self) (PrAll.map fun y hy => h y (List.mem_cons_of_mem _ hy))
theorem PrAll.of {K : PySem.W.Frag} {H : Hp} {k : V → Int × Int} (hk : ∀ x p, PrAt K H x p → k x = p) : ∀ {xs : List V} {ps : List (Int × Int)}, PrAll K H xs ps → ps = xs.map k ∧ ∀ x ∈ xs, PrAt K H x (k x)
  | [], _, .nil => ⟨rfl, fun _ h => by cases h⟩
  | x :: xs, _ :: ps, .cons h t => by
    obtain ⟨e, q⟩ := PrAll.of hk t
    have e0 := hk _ _ h
    refine ⟨by rw [List.map_cons, e0, e], fun y hy => ?_⟩
    rcases List.mem_cons.mp hy with z | z
    · subst z; rw [e0]; exact h
    · exact q y z
theorem Reps.uncons {K : PySem.W.Frag} {μ : List Addr} {H : Hp} {d : D} {ds : List D} {vs : List V} (h : Reps K μ H (d :: ds) vs) : ∃ v ws, vs = v :: ws ∧ Rep K μ H d v ∧ Reps K μ H ds ws := by simpa only [Reps] using h
theorem PrAll.back {K : PySem.W.Frag} {μ : List Addr} {H : Hp} : ∀ {xs : List V} {ps : List (Int × Int)}, Reps K μ H (ps.map ofPair) xs → PrAll K H xs ps
  | [], [], r => .nil
  | [], p :: ps, r => by have := r.length; simp at this
  | x :: xs, [], r => by have := r.length; simp at this
  | x :: xs, p :: ps, r => by
    obtain ⟨v, vs, e, h, t⟩ := Reps.uncons r
    cases e
    obtain ⟨a, ws, rfl, q, rr⟩ := d_tup (show Rep K μ H (.tup [.int p.1, .int p.2]) x from h)
    obtain rfl := Reps.ints (ns := [p.1, p.2]) rr
    exact .cons ⟨a, rfl, q⟩ (PrAll.back t)
section
variable {X : Cx} {W : WX} {e : Expr} {ml : EM (List D)} {p pos : Pos}
end
end HA
namespace HA
open PySem PySem.Spec PyProof.Rows L2
end HA
namespace HA
open PySem PySem.Spec PyProof.Rows L2
structure UpC (K : PySem.W.Frag) (D : Addr) : Prop where
  sp : PySem.W.specialIn K (.ref D) "__getattribute__" = some (some (.builtin "type.__getattribute__"))
  rd : PySem.W.readsIn K D (.type "type") = true
  ini : PySem.W.findCls K (.ref D) (.type "type") "__init__" = some (.val (.builtin "ValueError.__init__"))
def UpAsk (o e : Expr) (es : List Expr) (p2 pos : Pos) (env : PySem.Env) : Prop := ∃ pl : Sem Bool, eval (.Call (.Attribute o "__init__" p2) (e :: es) [] pos) env = (do
  let v ← eval o env
  standAt p2.atName
  let q ← holding [v] (getMethod v "__init__" pl)
  callWith pos q.1 q.2 (backTo pos (starEach (e :: es) env)) (backToKw pos (keywordEach [] env)))
theorem pe_upI {X : Cx} {y : Str} {D : Addr} {e : Expr} {es : List Expr} {ta : TA} {p1 p2 pos : Pos} (U : UpC X.K D) (hg : Gl X y) (hm : X.mg y = some (.ref D)) (ha : PA X (e :: es) ta) (hc : UpAsk (.Name y p1) e es p2 pos X.env)
    (hd : (y == ("__debug__" : Str)) = false := by decide) (he : starEach (e :: es) X.env = (false, eval e X.env) :: starEach es X.env := by rfl) (hpl : (backTo pos (starEach es X.env)).any (·.1) = false := by rfl) :
    PE X (.Call (.Attribute (.Name y p1) "__init__" p2) (e :: es) [] pos) (tVeI X.K ta) := by
  refine ⟨fun pins s σ H Q I h => ?_⟩
  obtain ⟨pl, hc⟩ := hc
  refine PySem.W.methodCall_KW (pl := pl) (ld_glob I hg hm ?_ hd) hc
  refine PySem.W.method_cls I.kIn U.sp (PySem.W.cls_value I.kIn U.rd U.ini (by decide +kernel) ?_)
  have I' := I.tok (s.toks + 1)
  refine PyProof.Rows.callWith_method1 (thn (ha.run pos pins _ σ H _ I' h) fun us s1 z => ?_) he hpl
  obtain ⟨vs, H1, I1, r1, a, C, ws, ev, hl, T, ea, q⟩ := z
  subst ev
  cases r1 with
  | @cons _ u0 _ ur ra rw' =>
    cases ra
    refine oinit_ok T I1 ea ?_ fun s' J => ⟨.non, H1, J, rfl, q⟩
    have := Paired.length rw'
    rw [sizeLine_eq]
    omega
def spX (K : PySem.W.Frag) (C : Addr) (f : Str) : Sp := fun vs H Q _ => ∃ (a : Addr) (v : V), vs = [.ref a, v] ∧ H a = some (exo a C none) ∧ ∀ dx, H dx = none → dx ≠ a → Q .non (upd (upd H dx (exd dx [(f, v)])) a (exo a C (some dx)))
structure XT (K : PySem.W.Frag) (mg : Str → Option Value) (x f : Str) : Prop where
  gC : mg x = some (.ref (gA K x))
  oex : OexC K (gA K x)
  noF : PySem.W.findIn K (.ref (gA K x)) f = some none
  ini : ∃ (fI D : Addr) (fd : FuncData) (y qual : Str) (st : Stmt) (txt : Str) (j : Nat) (p1 p2 p3 p4 p5 p6 p7 p8 p9 p10 : Pos), PySem.W.findIn K (.ref (gA K x)) "__init__" = some (some (.ref fI)) ∧ PySem.W.typeIn K (.ref fI) = some (.type "function") ∧
    Fun K "__init__" qual st fI fd ∧ FnScope [("self" : Str), f] [("self" : Str), f] (defScope st) ∧ Binds K fd [("self" : Str), f] [] ∧ UpC K D ∧ mg y = some (.ref D) ∧ (y == ("__debug__" : Str)) = false ∧ (f == ("__debug__" : Str)) = false ∧ (f == ("__classdict__" : Str)) = false ∧
    (defScope st).names.lookup ("self" : Str) = some NameKind.local ∧ (defScope st).names.lookup f = some NameKind.local ∧ (defScope st).names.lookup y = some NameKind.globalImplicit ∧
    (∀ env, UpAsk (.Name y p1) (.Name "self" p3) [.Constant (.str txt) j p4] p2 p5 env) ∧
    defBody st = [.Expr (.Call (.Attribute (.Name y p1) "__init__" p2) [.Name "self" p3, .Constant (.str txt) j p4] [] p5) p6, .Assign [.Attribute (.Name "self" p7) f p8] (.Name f p9) p10]
section
variable {P : Program} {w : World} {K : PySem.W.Frag} {mg : Str → Option Value} {base : Heap} {x f : Str}
theorem XT.fn (T : XT K mg x f) : ∃ (fI : Addr) (fd : FuncData), PySem.W.findIn K (.ref (gA K x)) "__init__" = some (some (.ref fI)) ∧ PySem.W.typeIn K (.ref fI) = some (.type "function") ∧
    FnOk P w K mg base (L2.CX P w) 1 fI fd ["self", f] (spX K (gA K x) f) ∧ Binds K fd ["self", f] [] := by
  obtain ⟨fI, D, fd, y, qual, st, txt, j, p1, p2, p3, p4, p5, p6, p7, p8, p9, p10, h1, h2, F, S, B, U, gy, dy, df, cf, ls, lf, ly, hc, hb⟩ := T.ini
  refine ⟨fI, fd, h1, h2, F.okX S (fun vs H Q E ⟨a, v, e, _⟩ => by rw [e]; rfl) (fun cdv A outer s H vs Q E hr z => ?_), B⟩
  obtain ⟨a, v, ev, ha, hq⟩ := z
  subst ev
  rw [hb]
  refine ⟨_, pss_cons (ps_expr (pe_upI U (show Gl _ _ from ly) gy (pa_cons (pv 0 rfl (.inl ls)) (pa_cons pe_str pa_nil)) (hc _) dy)) (pss_one (ps_ost (pv 0 rfl (.inl ls)) (pv 1 rfl (.inl lf) df cf))), ?_⟩
  refine ⟨_, rfl, ?_⟩
  refine ⟨a, gA K x, [.str txt], rfl, Nat.le_of_ble_eq_true rfl, T.oex, ha, ?_⟩
  refine ⟨_, rfl, ?_⟩
  refine ⟨_, rfl, a, gA K x, rfl, T.oex, T.noF, .inl ⟨ha, fun dx n1 n2 => hq dx n1 n2⟩⟩
end
def sRaise (x f : Str) (ml : EM (List D)) : SM := fun env ah => (ml env ah).thenS env fun ds ah1 => match ds with
  | [d] => .exn x (some [(f, d)]) env ah1
  | _ => .stuck
section
variable {X : Cx} {W : WX} {k : Nat} {x f : Str} {e : Expr} {ml : EM (List D)} {p pos rp : Pos}
end
end HA
namespace HA
open PySem PySem.Spec PyProof.Rows L2
def goneD (i : Nat) (D : Ends) : Ends := { nx := fun σ H => D.nx (σ.set i none) H, rt := D.rt, bk := fun σ H => D.bk (σ.set i none) H, ct := fun σ H => D.ct (σ.set i none) H }
abbrev Sui := Addr → Value → Option Addr → TS
def wAny (K : PySem.W.Frag) (Wo : WX) (D : Ends) : List (Value × Option Nat × Sui) → WX
  | [] => Wo
  | (c, oi, ts) :: r => fun k d σ H => ∃ b, PySem.W.exmOne K k c = some b ∧ (b = true → ∀ a, H a = none → match oi with
      | none => ts a k d D σ H
      | some i => ts a k d (goneD i D) (σ.set i (some (.ref a))) H) ∧ (b = false → wAny K Wo D r k d σ H)
def SuiOk (X : Cx) (sts : List Stmt) (ts : Sui) : Prop := ∀ (a : Addr) (o : Obj) (k : Value) (d : Option Addr) (pn : List (Addr × Obj)), Zc k d o → (∃ vs, o.data = .fields vs) → (Fr X.K k ∨ PXN.CtxN o) → PSs (X.suite a ((a, o) :: pn)) sts (ts a k d)
inductive Hds (X : Cx) : List ExceptHandler → List (Value × Option Nat × Sui) → Prop
  | nil : Hds X [] []
  | one {x : Str} {c : Value} {ts : Sui} {s0 : Stmt} {sr : List Stmt} {q1 q2 : Pos} {hs : List ExceptHandler} {l : List (Value × Option Nat × Sui)} (hc : Names X x c) (ok : SuiOk X (s0 :: sr) ts) (r : Hds X hs l) :
      Hds X (.ExceptHandler (some (.Name x q1)) none (s0 :: sr) q2 :: hs) ((c, none, ts) :: l)
  | named {x n : Str} {i : Nat} {c : Value} {ts : Sui} {s0 : Stmt} {sr : List Stmt} {q1 q2 : Pos} {hs : List ExceptHandler} {l : List (Value × Option Nat × Sui)} (hi : X.N[i]? = some n) (hl : X.env.kindOf n = some .local) (hc : Names X x c) (ok : SuiOk X (s0 :: sr) ts) (r : Hds X hs l) :
      Hds X (.ExceptHandler (some (.Name x q1)) (some n) (s0 :: sr) q2 :: hs) ((c, some i, ts) :: l)
section
variable {X : Cx} {body : List Stmt} {h0 : ExceptHandler} {hs : List ExceptHandler} {l : List (Value × Option Nat × Sui)} {pos : Pos} {tb : WX → TS} {Wo : WX}
def XEz (Z : Value → Option Addr → Obj → Prop) (X : Cx) (W : WX) (u : Value) (t : Shared) : Prop :=
  ∃ (x : Addr) (G : Heap) (t0 : Shared) (pins : List (Addr × Obj)) (σ : L2.St) (H : Hp) (k : Value) (d : Option Addr), u = .ref x ∧ Inv X pins σ H t0 ∧ (∀ b o, t0.heap.get? b = some o → b ∉ frs X.stack → G.get? b = some o) ∧ t0.heap.UpToSlots t.heap ∧
    Sky G X.stack x (Z k d) X.env.locals t.heap ∧ H x = none ∧ t.os = t0.os ∧ AllBare t.gens ∧ W k d σ H
abbrev xeTry (X : Cx) (pins : List (Addr × Obj)) (D : Ends) (hs : List ExceptHandler) : Value → Shared → Prop := fun u t => wpAny (model X.prog X.w) X.A (noteFrame u X.env) (fun _ t1 => wpAny (model X.prog X.w) X.A (setFlight u none) (fun _ t2 =>
    wpAny (model X.prog X.w) X.A (handleBy u X.env hs) (SP X pins D) X.xe t2) X.xe t1) X.xe t
end
end HA
namespace HA
open PySem PySem.Spec PyProof.Rows L2
section
open PySem.W PySem.Calls
variable {prog : Program} {w : World} {A : Around} {E : Value → Shared → Prop} {s : Shared} {K : Frag} {x D : Addr} {ox : Obj} {od : Option Obj}
end
def clsOf (K : PySem.W.Frag) : D → Option Value
  | .glo C => some (.ref (gA K C))
  | .cst (.ty T) => some (.type T)
  | _ => none
abbrev XTab := List (Str × D × Bool)
def xLook (tab : XTab) (c : Str) (d : D) : Option Bool := (tab.find? fun q => decide (q.1 = c ∧ q.2.1 = d)).map (·.2.2)
def xAny (tab : XTab) (c : Str) : List D → Option Bool
  | [] => some false
  | d :: r => match xLook tab c d with
    | some true => some true
    | some false => xAny tab c r
    | none => none
structure XTabOk (K : PySem.W.Frag) (tab : XTab) : Prop where
  ok : ∀ q ∈ tab, ExcC K (gA K q.1) ∧ ∃ u, clsOf K q.2.1 = some u ∧ PySem.W.kitOne K (.ref (gA K q.1)) u = some q.2.2
def oXis (tab : XTab) (a0 : Addr) (od : Option Addr) (c : Str) : List D → AH → Res D
  | [.xv a d ks _, .tup ds], ah => if (a = a0 ∧ (od = none ∨ od = some d ∧ ks ≠ [])) ∧ (ds.all fun d => (xLook tab c d).isSome) = true ∧ ds ≠ [] then match xAny tab c ds with
      | some b => .ok (.bl b) ah
      | none => .stuck else .stuck
  | [.xv a e ks _, d], ah => if a = a0 ∧ (od = none ∨ od = some e ∧ ks ≠ []) then match xLook tab c d with
      | some b => .ok (.bl b) ah
      | none => .stuck else .stuck
  | _, _ => .stuck
def oXf (cs : List Str) (a0 : Addr) (od : Option Addr) (c f : Str) : D → AH → Res D
  | .xv a d ks ds, ah => if a = a0 ∧ od = some d ∧ c ∈ cs then match (ks.zip ds).lookup f with
      | some x => .ok x ah
      | none => .stuck else .stuck
  | _, _ => .stuck
section
variable {X : Cx} {W : WX} {a : Addr} {o : Obj} {c : Str} {od : Option Addr} {pn : List (Addr × Obj)} {m : EM D} {ml : EM (List D)} {e : Expr} {es : List Expr} {pos p : Pos}
end
end HA
namespace HA
open PySem PySem.Spec PyProof.Rows L2
abbrev Flds := Option (List (Str × D))
def xvOf (a : Addr) (od : Option Addr) : Flds → D
  | none => .xv a 0 [] []
  | some l => .xv a (od.getD 0) (l.map (·.1)) (l.map (·.2))
def clr (i : Nat) : SRes → SRes
  | .nx env ah => .nx (env.set i none) ah
  | .rt d ah => .rt d ah
  | .bk env ah => .bk (env.set i none) ah
  | .ct env ah => .ct (env.set i none) ah
  | _ => .stuck
def noX : SRes → SRes
  | .exn _ _ _ _ => .stuck
  | r => r
abbrev SuiM := Addr → Option Addr → Str → SM
def sSui (i : Option Nat) (m : SuiM) (a : Addr) (od : Option Addr) (c : Str) (fs : Flds) (env : Env) (ah : AH) : SRes := match i with
  | none => noX (m a od c env ah)
  | some i => clr i (m a od c (env.set i (some (xvOf a od fs))) ah)
structure Hnd where
  c : Str
  i : Option Nat
  m : SuiM
def z0 : Option Addr → Option Addr := Option.map fun _ => 0
abbrev STab := List (Str × Str × Bool)
def sLook (t : STab) (c C : Str) : Option Bool := (t.find? fun q => decide (q.1 = c ∧ q.2.1 = C)).map (·.2.2)
def sHnd (t : STab) : List Hnd → Str → Flds → SM
  | [], c, fs => fun env ah => .exn c fs env ah
  | h :: r, c, fs => fun env ah => match sLook t c h.c with
    | some true => sSui h.i h.m 0 (fs.map fun _ => 0) c fs env ah
    | some false => sHnd t r c fs env ah
    | none => .stuck
def sTry (t : STab) (mb : SM) (l : List Hnd) : SM := fun env ah => match mb env ah with
  | .exn c fs env1 ah1 => sHnd t l c fs env1 ah1
  | r => r
structure STabOk (K : PySem.W.Frag) (t : STab) : Prop where
  ok : ∀ q ∈ t, PySem.W.exmOne K (.ref (gA K q.1)) (.ref (gA K q.2.1)) = some q.2.2
def Blind (i : Option Nat) (m : SuiM) : Prop := ∀ a od c fs env ah, od.isSome = Option.isSome fs → sSui i m a od c fs env ah = sSui i m 0 (z0 od) c fs env ah
def DSui (X : Cx) (t : STab) (C : Str) (sts : List Stmt) (m : SuiM) : Prop := ∀ (a : Addr) (o : Obj) (c : Str) (od : Option Addr) (pn : List (Addr × Obj)), Zc (.ref (gA X.K c)) od o → (∃ vs, o.data = .fields vs) → (Fr X.K (.ref (gA X.K c)) ∨ PXN.CtxN o) → sLook t c C = some true → PZs (X.suite a ((a, o) :: pn)) W0 sts (m a od c)
inductive HDs (X : Cx) (t : STab) : List ExceptHandler → List Hnd → Prop
  | nil : HDs X t [] []
  | one {x C : Str} {m : SuiM} {s0 : Stmt} {sr : List Stmt} {q1 q2 : Pos} {hs : List ExceptHandler} {l : List Hnd} (hc : Names X x (.ref (gA X.K C))) (ok : DSui X t C (s0 :: sr) m) (b : Blind none m) (r : HDs X t hs l) :
      HDs X t (.ExceptHandler (some (.Name x q1)) none (s0 :: sr) q2 :: hs) (⟨C, none, m⟩ :: l)
  | named {x n C : Str} {i : Nat} {m : SuiM} {s0 : Stmt} {sr : List Stmt} {q1 q2 : Pos} {hs : List ExceptHandler} {l : List Hnd} (hi : X.N[i]? = some n) (hl : X.env.kindOf n = some .local) (hc : Names X x (.ref (gA X.K C))) (ok : DSui X t C (s0 :: sr) m) (b : Blind (some i) m) (r : HDs X t hs l) :
      HDs X t (.ExceptHandler (some (.Name x q1)) (some n) (s0 :: sr) q2 :: hs) (⟨C, some i, m⟩ :: l)
section
variable {K : PySem.W.Frag} {μ : List Addr} {H : Hp} {env : Env} {ah : AH} {σ : L2.St} {D : Ends} {W : WX}
theorem EnvRel.unset (h : EnvRel K μ H env σ) (i : Nat) : EnvRel K μ H (env.set i none) (σ.set i none) := by
  refine ⟨by simp [h.1], fun j x e => ?_⟩
  by_cases hj : i = j
  · subst hj
    by_cases hl : i < env.length
    · rw [List.getElem?_set_self hl] at e; cases e
    · rw [List.getElem?_eq_none (by simpa using hl)] at e; cases e
  · rw [List.getElem?_set_ne hj] at e
    obtain ⟨w, q, r⟩ := h.2 j x e
    exact ⟨w, by rw [List.getElem?_set_ne hj]; exact q, r⟩
end
section
variable {X : Cx} {W : WX} {body : List Stmt} {h0 : ExceptHandler} {hs : List ExceptHandler} {l : List Hnd} {t : STab} {mb : SM} {pos : Pos}
def suiOf (K : PySem.W.Frag) (t : STab) (C : Str) (m : SuiM) : Sui := fun a k od D σ H => ∃ c, sLook t c C = some true ∧ k = .ref (gA K c) ∧ tS K W0 (m a od c) D σ H
theorem sui_ok {sts : List Stmt} {C : Str} {m : SuiM} (h : DSui X t C sts m) : SuiOk X sts (suiOf X.K t C m) := fun a o k d pn hz hf hk =>
  ⟨fun pins s σ H D I q => by
    obtain ⟨c, hl, rfl, q⟩ := q
    exact (h a o c d pn hz hf hk hl).run pins s σ H D I q⟩
theorem HDs.l2 : ∀ {hs : List ExceptHandler} {l : List Hnd}, HDs X t hs l → Hds X hs (l.map fun h => (.ref (gA X.K h.c), h.i, suiOf X.K t h.c h.m))
  | _, _, .nil => .nil
  | _, _, .one hc ok _ r => .one hc (sui_ok ok) r.l2
  | _, _, .named hi hl hc ok _ r => .named hi hl hc (sui_ok ok) r.l2
end
abbrev XM (α : Type) := Addr → Option Addr → EM α
def BE {α : Type} (i : Nat) (f : XM α) : Prop := ∀ (a : Addr) (od : Option Addr) (fs : Flds) (env : Env) (ah : AH), Option.isSome od = Option.isSome fs → f a od (env.set i (some (xvOf a od fs))) ah = f 0 (z0 od) (env.set i (some (xvOf 0 (z0 od) fs))) ah
section
variable {α β γ δ : Type} {i : Nat}
end
def SimS (i : Nat) (x y : D) : SRes → SRes → Prop
  | .nx e h, .nx e' h' => h = h' ∧ ∃ e0 : Env, e = e0.set i (some x) ∧ e' = e0.set i (some y)
  | .bk e h, .bk e' h' => h = h' ∧ ∃ e0 : Env, e = e0.set i (some x) ∧ e' = e0.set i (some y)
  | .ct e h, .ct e' h' => h = h' ∧ ∃ e0 : Env, e = e0.set i (some x) ∧ e' = e0.set i (some y)
  | .rt d h, .rt d' h' => d = d' ∧ h = h'
  | .exn _ _ _ _, .exn _ _ _ _ => True
  | .stuck, .stuck => True
  | _, _ => False
def BS (i : Nat) (f : Addr → Option Addr → SM) : Prop := ∀ (a : Addr) (od : Option Addr) (fs : Flds) (env : Env) (ah : AH), Option.isSome od = Option.isSome fs → SimS i (xvOf a od fs) (xvOf 0 (z0 od) fs) (f a od (env.set i (some (xvOf a od fs))) ah) (f 0 (z0 od) (env.set i (some (xvOf 0 (z0 od) fs))) ah)
theorem SimS.clr {i : Nat} {x y : D} {r r' : SRes} (h : SimS i x y r r') : clr i r = clr i r' := by
  cases r <;> cases r' <;> first | exact h.elim | rfl | (obtain ⟨rfl, e0, rfl, rfl⟩ := h; simp [HA.clr]) | (obtain ⟨rfl, rfl⟩ := h; rfl)
section
variable {i : Nat} {α : Type}
end
end HA
namespace HA
open PySem PySem.Spec PyProof.Rows L2
section
variable {X : Cx} {W : WX} {k : Nat} {e : Expr} {es : List Expr} {m : EM D} {ml mk : EM (List D)} {pos p : Pos} {x : Str}
abbrev CTab := List (Str × D)
def oCD (t : CTab) : D → AH → Res D
  | .str z, ah => match t.lookup z with
    | some d => .ok d ah
    | none => .stuck
  | _, _ => .stuck
structure CDOk (K : PySem.W.Frag) (w : World) (mg : Str → Option Value) (x : Str) (t : CTab) : Prop where
  ok : ∃ p es n, mg x = some (.ref p) ∧ K.lookup p = some ⟨.type "dict", none, .dict es n, #[]⟩ ∧ PySem.W.KeysLit w.params es.toList ∧ ∀ q ∈ t, ∃ u, PySem.W.nsIn K p q.1 = some (some u) ∧ CR K u q.2
abbrev MTab := List (Str × (List D → AH → Res D))
def eCallL (i : Nat) (t : MTab) (ml : EM (List D)) : EM D := fun env ah => match env[i]? with
  | some (some (.glo f)) => match t.lookup f with
    | some m => (ml env ah).bind m
    | none => .stuck
  | _ => .stuck
structure MOk (P : Program) (w : World) (K : PySem.W.Frag) (mg : Str → Option Value) (base : Heap) (k n : Nat) (f : Str) (m : List D → AH → Res D) : Prop where
  ok : ∃ fd ps, FnG P w K mg base k (gA K f) fd ps m ∧ PySem.W.keepIn K (.ref (gA K f)) = true ∧ Binds K fd ps [] ∧ ps.length = n
variable {f : Addr} {fd : FuncData} {ps ks : List Str} {mf : List D → AH → Res D} {kws : List Keyword} {g : {α : Type} → List α → List α → List α}
structure ClsT (K : PySem.W.Frag) (C : Str) (fs : List Str) : Prop where
  cl : Cls K (gA K C)
  no : ∀ f ∈ fs, NoAttr K (gA K C) f
def oFld (C : List (Str × List Str)) (f : Str) : D → AH → Res D
  | .ref n, ah => match ah[n]? with
    | some (.ins c kvs) => match C.lookup c with
      | some fs => if f ∈ fs then match kvs.lookup f with
        | some d => .ok d ah
        | none => .stuck else .stuck
      | none => .stuck
    | _ => .stuck
  | _, _ => .stuck
def putFd (f : Str) (v : D) : List (Str × D) → List (Str × D)
  | [] => [(f, v)]
  | (g, x) :: r => if g = f then (g, v) :: r else (g, x) :: putFd f v r
def sFldS (C : List (Str × List Str)) (mo mv : EM D) (f : Str) : SM := fun env ah => (mv env ah).thenS env fun v ah1 => (mo env ah1).thenS env fun d ah2 => match d with
  | .ref n => match ah2[n]? with
    | some (.ins c kvs) => match C.lookup c with
      | some fs => if f ∈ fs ∧ kvs.length < 1000 then .nx env (ah2.set n (.ins c (putFd f v kvs))) else .stuck
      | none => .stuck
    | _ => .stuck
  | _ => .stuck
end
end HA
namespace HA
open PySem PySem.Spec PyProof.Rows L2
def mkEnd (n : Nat) (r : Res D) : Res D := r.bind fun d ah => if d = .non then .ok (.ref n) ah else .stuck
section
variable {X : Cx} {W : WX} {k n : Nat} {C : Str} {f : Addr} {fd : FuncData} {ps ks : List Str} {mi : List D → AH → Res D} {g : {α : Type} → List α → List α → List α} {e : Expr} {es : List Expr} {kws : List Keyword} {ml mk : EM (List D)} {p pos : Pos}
def eMk (C : Str) (mi : List D → AH → Res D) (g : List D → List D → List D) (ml mk : EM (List D)) : EM D := e2 ml mk fun ds fs ah => mkEnd ah.length (mi (g (.ref ah.length :: ds) fs) (ah ++ [.ins C []]))
end
end HA
namespace HZ
open PySem PySem.Spec PyProof.Rows L2
set_option maxHeartbeats 4000000 in
theorem enum_newB {v : Value} {o : Obj} {Ho : Heap → Prop} (B : Begins v o Ho) :
    Meets (Builtin.«enumerate.__new__» ⟨[.type "enumerate", v], []⟩) (fun _ R s => Ho s.heap ∧
      R (.ok (.ret (.ref (s.heap.push o).objs.size))) { s with heap := (s.heap.push o).push { cls := .type "enumerate", data := .fields #[.none, .bool false, .ref s.heap.objs.size, rawInt 0, .none, .none] } }) :=
  .of_wp fun prog w A R s hh => by
    obtain ⟨hp, g, d, tk, os⟩ := s
    obtain ⟨b1, hh⟩ := hh
    have hsub := sub_enumerate
    have go : ∀ {A' : Around} {E : Value → Shared → Prop} {Q : Value → Shared → Prop}, Q (.ref hp.objs.size) ⟨hp.push o, g, d, tk, os⟩ → wpAny (model prog w) A' (pyIter v) Q E ⟨hp, g, d, tk, os⟩ := fun q => B.iter prog w _ _ ⟨hp, g, d, tk, os⟩ _ b1 q
    wp_walk using go
    refine wpAny_stack_any fun st => wpAny_pure ?_
    split
    · rename_i c _ _ _ _ _
      cases (c == Value.type "enumerate")
      all_goals
        wp_walk using go
        exact ⟨_, rfl, hh⟩
    · wp_walk using go
      exact ⟨_, rfl, hh⟩
theorem call_enumB {prog : Program} {w : World} {A : Around} {E : Value → Shared → Prop} {s : Shared} {v : Value} {o : Obj} {Ho : Heap → Prop} {Q : Value → Shared → Prop} (B : Begins v o Ho) (h1 : Ho s.heap)
    (h : ∀ h', IsEnum h' (s.heap.objs.size + 1) s.heap.objs.size 0 .none → h'.get? s.heap.objs.size = some o → (∀ b u, s.heap.get? b = some u → h'.get? b = some u) → Q (.ref (s.heap.objs.size + 1)) { s with heap := h' }) :
    wpAny (model prog w) A (call (.type "enumerate") [v]) Q E s := by
  refine callType_new F.called_enumerate (by decide) (F.typeCall_enumerate_1 _) (F.newCall_enumerate_1 _) (fun obj => F.args_object_init_2 obj _) F.entry_enumerate_new (enum_newB B) ⟨h1, ?_⟩
  have hz : (s.heap.push o).objs.size = s.heap.objs.size + 1 := Heap.size_push ..
  have e2 := Heap.get?_push_size (s.heap.push o) (o := { cls := .type "enumerate", data := .fields #[.none, .bool false, .ref s.heap.objs.size, rawInt 0, .none, .none] }) rfl
  rw [hz] at e2
  show _ ∧ _
  rw [hz]
  exact ⟨⟨_, e2, rfl⟩, h _ e2 (Heap.get?_push_of_some _ (Heap.get?_push_size _ B.free)) fun b u q => Heap.get?_push_of_some _ (Heap.get?_push_of_some _ q)⟩
def Itn (K : PySem.W.Frag) (N : Nat) (p : Bool × Addr) : It :=
  ⟨fun i H => i < N ∧ ∃ (xs : List V) (x : V), PtAt K H p xs ∧ xs[i]? = some x, fun i H v H' => ∃ T x, v = .ref T ∧ H T = none ∧ H' = upd H T (.tup [.int (i : Nat), x]) ∧ ∀ xs, PtAt K H p xs → xs[i]? = some x,
    fun i H => N ≤ i ∧ ∃ xs : List V, PtAt K H p xs ∧ xs.length = N⟩
theorem turn_n {P : Program} {w : World} {K : PySem.W.Frag} {elts : List Expr} {kk : Nat} {tpos : Pos} {N : Nat} {p : Bool × Addr} {e it : Addr} (na : p.2 ≠ it) (ne : p.2 ≠ e) (nn : e ≠ it) :
    Turn P w K (.Tuple elts kk tpos) (Itn K N p) [e, it] e (fun i h => i ≤ N ∧ (∃ old, IsEnum h e it ((i : Nat) : Int) old) ∧ PIter p.1 h it p.2 i) where
  mem := by simp
  obj := fun i h st c hc => by
    obtain ⟨_, ⟨old, he⟩, hi⟩ := st
    obtain ⟨o1, e1, d1⟩ := hi.live
    have e' : c = e ∨ c = it := by simpa using hc
    rcases e' with q | q
    · rw [q]; exact ⟨_, he, fun v q => nomatch q⟩
    · rw [q]; exact ⟨o1, e1, d1⟩
  keep := fun i h h' st k => let ⟨hn, ⟨old, he⟩, hi⟩ := st; ⟨hn, ⟨old, k e (by simp) _ he⟩, hi.at fun o q => k it (by simp) o q⟩
  item := by
    intro X hP hw hK hc i pins s σ H E I hf st hg
    subst hP hw hK
    obtain ⟨_, ⟨old, he⟩, hi⟩ := st
    obtain ⟨hlt, xs, x, hq, hx⟩ := hg
    obtain ⟨its, rv, pp⟩ := ptAt I hq
    obtain ⟨u, hu, ru⟩ := rv.get hx
    have hh : X.A.in1.handled = none := I.ok.hd hc
    have hel : e < s.heap.objs.size := Heap.lt_size he
    have hil : it < s.heap.objs.size := by obtain ⟨_, q, _⟩ := hi.live; exact Heap.lt_size q
    refine wpAny_pyNext_enum_itemD (drawsP hh it p.2 na its.toArray) he ⟨hi, pp⟩ (by simpa using (List.getElem?_eq_some_iff.mp hu).1) nn (by simp [nn, Ne.symm ne]) fun v h' tk ev ho hst hT hsz hk => ?_
    obtain rfl : v = u := by
      have : its[i]? = some v := by simpa using ev
      rw [hu] at this; cases this; rfl
    refine ⟨_, rfl, wpAny_letOwnedTupleGo_enum (s := { s with heap := h', toks := tk + 1 }) ho fun h'' he' sb => ?_⟩
    have hT2 : h''.get? s.heap.objs.size = some { cls := .type "tuple", data := .seq #[.int i tk, v] } := (sb.2 _ (Nat.ne_of_gt hel)).trans hT
    have new : ObjOk X.prog X.w (upd H s.heap.objs.size (.tup [.int (i : Nat), x])) h'' s.heap.objs.size (.tup [.int (i : Nat), x]) :=
      ⟨by show 2 ≤ sizeLine; decide, [.int i tk, v], .cons ⟨_, rfl⟩ (.cons ru .nil), ⟨_, hT2, rfl, _, rfl⟩⟩
    have I1 : Inv X pins σ (upd H s.heap.objs.size (.tup [.int (i : Nat), x])) { s with heap := h'', toks := tk + 1 } :=
      I.turnedNew (t' := tk + 1) (ch := [e, it]) (fun b ob hb q => (sb.2 b (fun z => hb (by simp [z]))).trans (hk b ob (fun z => hb (by simp [z])) (fun z => hb (by simp [z])) q)) hf (Nat.le_refl _) new
    refine ⟨.ref s.heap.objs.size, _, I1, rfl, ⟨_, x, rfl, I.hok.fresh (Nat.le_refl _), rfl, fun l hl => by rw [pt_inj I hl hq]; exact hx⟩, ⟨hlt, ⟨v, ?_⟩, hst.1.at fun o q => (sb.2 it (Ne.symm nn)).trans q⟩, fun c hcm => ?_⟩
    · have e1 : ((i + 1 : Nat) : Int) = (i : Int) + 1 := by omega
      rw [e1]; exact he'
    · have hlt : c < s.heap.objs.size := by
        have e' : c = e ∨ c = it := by simpa using hcm
        rcases e' with q | q
        · rw [q]; exact hel
        · rw [q]; exact hil
      rw [upd_ne (Nat.ne_of_lt hlt)]
      exact (hf c hcm).1
  done := by
    intro X hP hw hK hc i pins s σ H E I hf st hg
    subst hP hw hK
    obtain ⟨hn, ⟨old, he⟩, hi⟩ := st
    obtain ⟨hN, xs, hq, hx⟩ := hg
    obtain ⟨its, rv, pp⟩ := ptAt I hq
    have hh : X.A.in1.handled = none := I.ok.hd hc
    have hl : its.toArray.size = i := by have := rv.length; simp; omega
    refine wpAny_pyNext_enum_endD (drawsP hh it p.2 na its.toArray) he (by rw [hl]; exact ⟨hi, pp⟩) fun h' eb => ⟨rfl, I.turnedL (t' := s.toks) (ch := [e, it]) (fun c o hb q => eb c o (fun z => hb (by simp [z])) q) hf⟩
  self := fun A i s Q E st h => let ⟨_, ⟨_, he⟩, _⟩ := st; wpAny_pyIter_enum he h
theorem pi_enumB {X : Cx} {e : Expr} {ta : TA} {q pos tpos : Pos} {elts : List Expr} {kk : Nat} (hg : Gl X "enumerate") (hm : X.mg "enumerate" = none) (ha : PA X [e] ta) (hs : starEach [e] X.env = [(false, eval e X.env)] := by rfl) :
    PI X (.Tuple elts kk tpos) (.Call (.Name "enumerate" q) [e] [] pos) (fun σ H R => ta σ H fun vs H1 => ∃ (p : Bool × Addr) (N : Nat) (xs : List V), vs = [.ref p.2] ∧ PtAt X.K H1 p xs ∧ R (Itn X.K N p) H1) := by
  refine ⟨fun pins s σ H R I h => ?_⟩
  refine Call_ (ld_blt I hg hm boot_enumerate (PyProof.Rows.callWith_type1 (thn (ha.run pos pins s σ H _ I h) fun us s1 z => ?_) hs rfl))
  obtain ⟨vs, H1, I1, r1, p, N, xs, ex, hq, hR⟩ := z
  subst ex
  obtain ⟨u, rfl, r⟩ := vals1 r1
  obtain rfl : u = Value.ref p.2 := r
  obtain ⟨its, _, pp⟩ := ptAt I1 hq
  refine call_enumB (beginsP p.1 p.2 _) pp fun h' he ho hk => wpAny_pyIter_enum he ?_
  have I2 : Inv X pins σ H1 { s1 with heap := h' } := I1.kept (t' := s1.toks) hk
  have it1 : PIter p.1 h' s1.heap.objs.size p.2 0 := by
    revert ho
    cases p.1
    · exact fun ho => ⟨_, ho, rfl, rfl⟩
    · exact fun ho => ⟨_, ho, rfl, rfl⟩
  have la := pp.lt
  refine ⟨s1.heap.objs.size + 1, [s1.heap.objs.size + 1, s1.heap.objs.size], _, _, H1, rfl, I2, turn_n (p := p) (Nat.ne_of_lt la) (Nat.ne_of_lt (Nat.lt_succ_of_lt la)) (Nat.succ_ne_self _), ⟨Nat.zero_le _, ⟨.none, he⟩, it1⟩, fun c hcm => ?_, hR⟩
  have e' : c = s1.heap.objs.size + 1 ∨ c = s1.heap.objs.size := by simpa using hcm
  have hle : s1.heap.objs.size ≤ c := by rcases e' with z | z <;> rw [z] <;> simp
  exact I1.fpOk hle (I1.hok.fresh hle)
end HZ
namespace HA
open PySem PySem.Spec PyProof.Rows L2
def numD : Nat → List D → List D
  | _, [] => []
  | i, d :: ds => .tup [.int i, d] :: numD (i + 1) ds
theorem numD_get : ∀ {ds : List D} {k i : Nat} {d : D}, (numD k ds)[i]? = some d → ∃ x, ds[i]? = some x ∧ d = .tup [.int ((k + i : Nat) : Int), x]
  | [], k, i, d, h => by simp [numD] at h
  | x :: ds, k, 0, d, h => by simp [numD] at h; exact ⟨x, rfl, h.symm⟩
  | x :: ds, k, i + 1, d, h => by
    simp only [numD, List.getElem?_cons_succ] at h
    obtain ⟨y, e1, e2⟩ := numD_get h
    exact ⟨y, by simpa using e1, by rw [e2]; congr 3; omega⟩
theorem numD_length : ∀ (ds : List D) (k : Nat), (numD k ds).length = ds.length
  | [], _ => rfl
  | d :: ds, k => by simp [numD, numD_length ds]
def iEnumD (d : D) (ah : AH) : Res Itm := match partOf d ah with
  | some (xs, g) => .ok ⟨numD 0 xs, g⟩ ah
  | none => .stuck
section
variable {X : Cx} {W : WX} {e : Expr} {m : EM D} {p pos tpos : Pos} {elts : List Expr} {kk : Nat}
theorem pf_enum (hg : Gl X "enumerate") (hm : X.mg "enumerate" = none) (h : PD X W e m) (hs : starEach [e] X.env = [(false, eval e X.env)] := by rfl) : PF X W (.Tuple elts kk tpos) (.Call (.Name "enumerate" p) [e] [] pos) (e1 m iEnumD) := by
  refine PI.weak (HZ.pi_enumB hg hm (pa_cons h pa_nil hs) hs) fun σ H R ⟨μ, env, ah, he, hS, hp⟩ => ?_
  refine ⟨μ, env, ah, he, hS, hp.bind fun d ah1 μ1 x H1 e1 s1 r1 p1 => ?_⟩
  have r1 : Rep X.K μ1 H1 d x := r1
  unfold iEnumD at p1
  split at p1
  · rename_i ds g ep
    obtain ⟨q, rfl, k1⟩ := part_at s1 r1 ep
    have ok1 : (g.all fun q => decide (listAt ah1 q.1 = some q.2)) = true := by
      unfold partOf at ep
      split at ep
      · cases ep; rfl
      · rw [Option.map_eq_some_iff] at ep
        obtain ⟨y, el, ep⟩ := ep
        cases ep
        simp [el]
      · cases ep
    obtain ⟨xs, hx, rx⟩ := k1 μ1 H1 ah1 Ext.refl s1 ok1
    refine ⟨q, ds.length, xs, rfl, hx, Post.ok1 (R := RI X.K) p1 s1 ?_⟩
    intro i μ' H' ah' x' S' o
    obtain ⟨us, hu, ru⟩ := k1 μ' H' ah' x' S' o
    have l0 : (numD 0 ds).length = ds.length := numD_length ds 0
    have l1 := ru.length
    refine ⟨fun hl => ?_, fun d2 ed => ?_⟩
    · have hl' : (numD 0 ds).length ≤ i := hl
      exact ⟨by omega, us, hu, l1.symm⟩
    · obtain ⟨a, ea, rfl⟩ := numD_get ed
      obtain ⟨va, eva, rva⟩ := ru.get ea
      refine ⟨⟨(List.getElem?_eq_some_iff.mp ea).1, us, va, hu, eva⟩, fun y H'' yl => ?_⟩
      obtain ⟨T, y1, rfl, nT, rfl, z1⟩ := yl
      have f1 := z1 us hu
      rw [eva] at f1; cases f1
      have ex : Ext X.K μ' H' μ' (upd H' T (.tup [.int (i : Nat), va])) := Ext.other nT
      refine ⟨ex, S'.other nT, ?_⟩
      simp only [Rep]
      exact ⟨T, _, rfl, SqT.of upd_same, Reps.cons (by simp only [Rep]; simp) (Reps.cons (rva.ext ex) Reps.nil)⟩
  · exact p1.elim
end
def strIx (a b : Str) : Option Nat := (Builtin.Str.occurrences a b 0 a.length 1).head?
def mIndexS : D → List D → AH → Res D
  | .str a, [.str b], ah => match strIx a b with
    | some i => .ok (.int i) ah
    | none => .stuck
  | _, _, _ => .stuck
def isStrD : D → Bool
  | .str _ => true
  | _ => false
def eMs (mo : EM D) (ml : EM (List D)) (f : D → List D → AH → Res D) : EM D := fun env ah => (mo env ah).bind fun d ah1 => if isStrD d = true then (ml env ah1).bind fun ds ah2 => f d ds ah2 else .stuck
section
variable {X : Cx} {W : WX} {e o : Expr} {es : List Expr} {mo : EM D} {ml : EM (List D)} {name : Str} {apos cpos : Pos} {id : String} {f : D → List D → AH → Res D}
theorem str_ty {K : PySem.W.Frag} {μ : List Addr} {H : Hp} {d : D} {v : V} (r : Rep K μ H d v) (h : isStrD d = true) : tyV K "str" v H := by
  cases d with
  | str x => rw [d_str r]; rfl
  | _ => cases h
theorem pd_ms (pa : PlainAttrs "str") (slot : Slot "str" name id) (hty : typeOf (.builtin id) = pure (.type "method_descriptor")) (hm : MtD X id f) (ho : PD X W o mo) (ha : PAs X W (e :: es) ml)
    (hbase : attributeBase o name X.env (eval o X.env) = eval o X.env := by rfl)
    (hfew : ((backTo cpos (starEach (e :: es) X.env)).all (fun x => !x.1) && (backToKw cpos (keywordEach [] X.env)).all (fun x => x.1.isSome) && decide ((e :: es).length + ([] : List Keyword).length + (if ([] : List Keyword).isEmpty then 0 else 1) < 30)) = true := by rfl)
    (hline : (apos.endLine == cpos.line) = true := by rfl) (hs : starEach (e :: es) X.env = (false, eval e X.env) :: starEach es X.env := by rfl) (hplain : (backTo cpos (starEach es X.env)).any (·.1) = false := by rfl) :
    PD X W (.Call (.Attribute o name apos) (e :: es) [] cpos) (eMs mo ml f) := by
  refine PE.weak (pe_bmσ pa slot hty (fun σ => hm (fun c d H' => W c d σ H')) ho ha hbase hfew hline hs hplain) fun σ H Q ⟨μ, env, ah, he, hs, hp⟩ => ?_
  refine ⟨μ, env, ah, he, hs, hp.bind fun d ah1 μ1 x H1 e1 s1 r1 p1 => ?_⟩
  split at p1
  · rename_i hi
    refine ⟨str_ty (show Rep X.K μ1 H1 d x from r1) hi, tG_next he e1 s1 (p1.bind fun ds ah2 μ2 vs H2 e2 s2 r2 p2 => ?_)⟩
    exact ⟨μ2, ah2, d, ds, s2, Rep.ext (show Rep X.K μ1 H1 d x from r1) e2, r2, p2⟩
  · exact p1.elim
end
end HA
namespace HA
open PySem PySem.Spec PyProof.Rows L2
section
variable {P : Program} {w : World} {K : PySem.W.Frag} {h : Heap} {mg : Str → Option Value}
structure TFk (K : PySem.W.Frag) (mg : Str → Option Value) (x : Str) (st : Stmt) where
  a : Addr
  fd : FuncData
  F : Fun K x x st a fd
  g : mg x = some (.ref a)
  k : PySem.W.keepIn K (.ref a) = true
  ga : gA K x = a
def tfk_mk (X : K.In h) (G : h.Ns mainGlobals mg) {x : Str} {st : Stmt} {f : Addr} {oc : Value} {od an : Option Addr} {osl : Array (Option Value)} {kV doc pm cdv ct : Value}
    (l : K.lookup f = some ⟨oc, od, .func (PySem.W.fnOf x x (defArgs st) (defBody st) (defScope st) .none kV doc pm an cdv ct), osl⟩) (n : PySem.W.nsIn K mainGlobals x = some (some (.ref f)))
    (c : PySem.W.codeIn K cdv x = true) (k : PySem.W.keepIn K (.ref f) = true) : TFk K mg x st := ⟨f, _, fun_mk l c k, PySem.W.mg_of X G n, k, gA_of n⟩
structure CT (K : PySem.W.Frag) (mg : Str → Option Value) (C q : Str) (st : Stmt) where
  a : Addr
  fd : FuncData
  F : Fun K "__init__" q st a fd
  M : Mk K (gA K C) a
  g : mg C = some (.ref (gA K C))
def ct_mk (X : K.In h) (G : h.Ns mainGlobals mg) {C q : Str} {st : Stmt} {c f : Addr} {oc : Value} {od an : Option Addr} {osl : Array (Option Value)} {kV doc pm cdv ct : Value}
    (l : K.lookup f = some ⟨oc, od, .func (PySem.W.fnOf "__init__" q (defArgs st) (defBody st) (defScope st) .none kV doc pm an cdv ct), osl⟩) (n : PySem.W.nsIn K mainGlobals C = some (some (.ref c)))
    (cd : PySem.W.codeIn K cdv q = true) (k : PySem.W.keepIn K (.ref f) = true) (m1 : PySem.W.makesIn K c = true) (m2 : PySem.W.findIn K (.ref c) "__init__" = some (some (.ref f))) (m3 : PySem.W.isFn K (.ref f) = true) (m4 : PySem.W.keepIn K (.ref c) = true) : CT K mg C q st :=
  ⟨f, _, fun_mk l cd k, by rw [gA_of n]; exact ⟨m1, m2, m3, m4⟩, by rw [gA_of n]; exact PySem.W.mg_of X G n⟩
end
end HA
namespace HA
open PySem PySem.Spec PyProof.Rows L2
def gUnlD (n : Nat) (u : List D → HA.Env → AH → Option HA.Env) : TMX := fun d env ah => match d with
  | .ref m => match ah[m]? with
    | some (.lst ds) => if ds.length = n then (u ds env ah).map fun env1 => (env1, ah) else none
    | _ => none
  | _ => none
end HA
namespace HA
open PySem PySem.Spec PyProof.Rows L2 RT
section
variable {prog : Program} {w : World} {A : Around} {E : Value → Shared → Prop} {s : Shared} {R : Result → Shared → Prop}
end
section
variable {X : Cx} {W : WX} {pos : Pos}
def gStarL (K : PySem.W.Frag) (n : Nat) (t : TGs) : TG := fun v σ H Q => ∃ a xs, v = .ref a ∧ SqL K H a xs ∧ n ≤ xs.length ∧ ∀ p, H p = none → t (xs.take n ++ [.ref p]) σ (upd H p (.lst (xs.drop n))) Q
end
end HA
namespace HA
open PySem PySem.Spec PyProof.Rows L2
def gStarLD (n : Nat) (u : List D → HA.Env → AH → Option HA.Env) : TMX := fun d env ah => match d with
  | .ref m => match ah[m]? with
    | some (.lst ds) => if n ≤ ds.length then (u (ds.take n ++ [.ref ah.length]) env (ah ++ [.lst (ds.drop n)])).map fun env1 => (env1, ah ++ [.lst (ds.drop n)]) else none
    | _ => none
  | _ => none
section
variable {X : Cx} {W : WX} {e tg : Expr} {es es' : List Expr} {m : EM D} {pos : Pos} {ts : List Nat} {n : Nat}
end
end HA
namespace HA
open PySem PySem.Spec PyProof.Rows L2
def chars (x : Str) : List D := x.cps.toList.map fun c => .str ⟨#[c]⟩
def iStrD (d : D) (ah : AH) : Res Itm := match d with
  | .str x => .ok ⟨chars x, []⟩ ah
  | _ => .stuck
end HA
namespace HA
open PySem PySem.Spec PyProof.Rows L2
section
variable {X : Cx} {W : WX} {k : Nat}
def mExtend (d : D) (ds : List D) (ah : AH) : Res D := match d, ds with
  | .ref n, [.ref m] => match ah[n]?, ah[m]? with
    | some (.lst xs), some (.lst zs) => if xs.length + zs.length ≤ line then .ok .non (ah.set n (.lst (xs ++ zs))) else .stuck
    | _, _ => .stuck
  | _, _ => .stuck
theorem md_extend : MtD X "list.extend" mExtend := fun W => by
  refine MtR.imp mt_extend fun x vs H Q ⟨μ, ah, d, ds, S, r1, r2, hp⟩ => ?_
  unfold mExtend at hp
  split at hp
  · rename_i n m
    obtain ⟨a, ea, rfl⟩ := d_ref r1
    obtain ⟨w, rfl, ry⟩ := reps1 r2
    obtain ⟨b, eb, rfl⟩ := d_ref ry
    split at hp
    · rename_i xs zs q q2
      split at hp
      · rename_i hl
        obtain ⟨vs, h1, r⟩ := S.ok n a _ ea q
        obtain ⟨ws, h2, r'⟩ := S.ok m b _ eb q2
        exact ⟨a, b, vs, ws, rfl, rfl, h1, h2, line_le (by rw [← r.length, ← r'.length]; exact hl), put_lst S ea q (r.append r') r_non' hp⟩
      · exact hp.elim
    · exact hp.elim
  · exact hp.elim
theorem new_strs {μ : List Addr} {H : Hp} {ah : AH} {Wx : Value → Option Addr → Hp → Prop} {Q : VK} {ys : List Str} (S : Sim X.K μ H ah) (hp : Post X.K (RD X.K) Wx μ H Q (.ok (.ref ah.length) (ah ++ [.lst (ys.map D.str)]))) : rNewStrs ys H Q := fun p hp0 => by
  have rs : ∀ (μ : List Addr) (H : Hp) (ys : List Str), Reps X.K μ H (ys.map D.str) (ys.map V.str) := fun μ H ys => by
    induction ys with
    | nil => exact Reps.nil
    | cons y ys ih => exact Reps.cons (by simp only [Rep]) ih
  refine hp (μ ++ [p]) (.ref p) _ (Ext.ours hp0 (by rw [S.len]; exact S.pos)) (S.new hp0 rfl ⟨ys.map V.str, upd_same, rs _ _ ys⟩) ?_
  show Rep _ _ _ _ _
  simp only [Rep]
  exact ⟨p, by rw [← S.len]; simp, rfl⟩
def mSplit : D → List D → AH → Res D
  | .str a, [.str b], ah => if b.length ≠ 0 ∧ a.length + 2 ≤ line then .ok (.ref ah.length) (ah ++ [.lst ((Txt.split a b).map D.str)]) else .stuck
  | _, _, _ => .stuck
theorem md_split : MtD X "str.split" mSplit := fun W => by
  refine MtR.imp mt_split fun x vs H Q ⟨μ, ah, d, ds, S, r1, r2, hp⟩ => ?_
  unfold mSplit at hp
  split at hp
  · rename_i a b
    obtain ⟨v, rfl, rv⟩ := reps1 r2
    rw [d_str r1, d_str rv]
    split at hp
    · rename_i h
      exact ⟨a, b, rfl, rfl, by simpa using h.1, line_le h.2, new_strs S hp⟩
    · exact hp.elim
  · exact hp.elim
def mUpper : D → List D → AH → Res D
  | .str a, [], ah => if a.length ≤ 5592405 then .ok (.str (Txt.upper a)) ah else .stuck
  | _, _, _ => .stuck
def itemsOf (d : D) (ah : AH) : Option (List D) := match d with
  | .tup ds => some ds
  | .ref n => listAt ah n
  | _ => none
def mJoin : D → List D → AH → Res D
  | .str a, [d], ah => match (itemsOf d ah).bind (optAll dStr) with
    | some ys => if (ys.map (·.length)).sum + ys.length * a.length ≤ 16777216 then .ok (.str (Txt.join a ys)) ah else .stuck
    | none => .stuck
  | _, _, _ => .stuck
variable {e o f : Expr} {es : List Expr} {mo mk mx : EM D} {ml : EM (List D)} {name : Str} {apos cpos : Pos} {id : String} {g : D → List D → AH → Res D}
def sMaxL (ds : List D) (ah : AH) : Res D := match optAll dInt ds with
  | some (n :: ns) => .ok (.int ((n :: ns).foldl max n)) ah
  | _ => .stuck
theorem foldl_max : ∀ (ns : List Int) (a m : Int), (m = a ∨ m ∈ ns) → a ≤ m → (∀ y ∈ ns, y ≤ m) → ns.foldl max a = m
  | [], a, m, h, _, _ => by rcases h with h | h; exact h.symm; cases h
  | n :: ns, a, m, h, ha, hn => by
    rw [List.foldl_cons]
    have h1 := hn n List.mem_cons_self
    refine foldl_max ns _ m ?_ (by omega) fun y hy => hn y (List.mem_cons_of_mem _ hy)
    rcases h with h | h
    · left; omega
    · rcases List.mem_cons.mp h with h | h
      · left; omega
      · exact .inr h
def isDictD (d : D) (ah : AH) : Bool := match d with
  | .ref n => match ah[n]? with
    | some (.dK _) => true
    | _ => false
  | _ => false
def oDGet (d kd z : D) (ah : AH) : Res D := match d, dKey kd with
  | .ref n, some kk => match ah[n]? with
    | some (.dK kvs) => .ok ((valD kvs kk).getD z) ah
    | _ => .stuck
  | _, _ => .stuck
def eDGet1 (mo mk : EM D) : EM D := fun env ah => (mo env ah).bind fun d ah1 => if isDictD d ah1 = true then (mk env ah1).bind fun kd ah2 => oDGet d kd .non ah2 else .stuck
def eDGet2 (mo mk mx : EM D) : EM D := fun env ah => (mo env ah).bind fun d ah1 => if isDictD d ah1 = true then (mk env ah1).bind fun kd ah2 => (mx env ah2).bind fun z ah3 => oDGet d kd z ah3 else .stuck
theorem isD_of {μ : List Addr} {H : Hp} {ah : AH} {d : D} {v : V} (S : Sim X.K μ H ah) (r : Rep X.K μ H d v) (h : isDictD d ah = true) : ∃ a, v = .ref a ∧ IsD H a := by
  unfold isDictD at h
  split at h
  · rename_i n
    obtain ⟨a, ea, rfl⟩ := d_ref r
    split at h
    · rename_i kvs q
      obtain ⟨kws, h1, _, _⟩ := S.ok n a _ ea q
      exact ⟨a, rfl, .inl ⟨kws, .inl h1⟩⟩
    · cases h
  · cases h
theorem dget_of {μ : List Addr} {H : Hp} {ah : AH} {d kd z : D} {v y w : V} {Wx : Value → Option Addr → Hp → Prop} {Q : VK} (S : Sim X.K μ H ah) (r : Rep X.K μ H d v) (rk : Rep X.K μ H kd y) (rz : Rep X.K μ H z w) (hp : Post X.K (RD X.K) Wx μ H Q (oDGet d kd z ah)) : ∃ a o, v = .ref a ∧ DGet H a y o ∧ Q (o.getD w) H := by
  unfold oDGet at hp
  split at hp
  · rename_i n kk ek
    obtain ⟨a, ea, rfl⟩ := d_ref r
    split at hp
    · rename_i kvs q
      obtain ⟨kws, h1, h2, r2⟩ := S.ok n a _ ea q
      have g := val_get (kk := kk) h2 r2
      refine ⟨a, valV kws kk, rfl, ?_, ?_⟩
      · rw [dKey_v ek rk]; exact DGet.k h1
      · cases e : valD kvs kk with
        | none =>
          rw [e] at g hp
          have g : valV kws kk = none := g
          rw [g]
          exact Post.ok1 (R := RD X.K) hp S rz
        | some u =>
          rw [e] at g hp
          obtain ⟨u', e', ru⟩ := g
          rw [e']
          exact Post.ok1 (R := RD X.K) hp S ru
    · exact hp.elim
  · exact hp.elim
theorem pd_dget2 (hr : Rm k X.A) (ho : PD X W o mo) (he : PD X W e mk) (hf : PD X W f mx) (m : M2 X o "get" apos e f cpos) : PD X W (.Call (.Attribute o "get" apos) [e, f] [] cpos) (eDGet2 mo mk mx) := by
  refine PE.weak (pe_dget2 hr.u1 ho he hf m) fun σ H Q ⟨μ, env, ah, he, hs, hp⟩ => ?_
  refine ⟨μ, env, ah, he, hs, hp.bind fun d ah1 μ1 x H1 e1 s1 r1 p1 => ?_⟩
  split at p1
  · rename_i hi
    obtain ⟨a, rfl, dd⟩ := isD_of s1 (show Rep X.K μ1 H1 d x from r1) hi
    refine ⟨a, rfl, dd, tG_next he e1 s1 (p1.bind fun kd ah2 μ2 y H2 e2 s2 r2 p2 => ?_)⟩
    refine tG_next he (e1.trans e2) s2 (p2.bind fun z ah3 μ3 w H3 e3 s3 r3 p3 => ?_)
    obtain ⟨b, ov, eb, g, q⟩ := dget_of s3 (Rep.ext (show Rep X.K μ1 H1 d (.ref a) from r1) (e2.trans e3)) (Rep.ext (show Rep X.K μ2 H2 kd y from r2) e3) r3 p3
    cases eb
    exact ⟨ov, g, q⟩
  · exact p1.elim
end
end HA
namespace HA
open PySem PySem.Spec PyProof.Rows L2
theorem par_sw3 {env : PySem.Env} {x y z : Str} {a b c : Expr} {px py pz pt pt2 : Pos} {kt k2 : Nat} (hb : env.blockKind = .function) (hx : (env.kindOf x == some .local) = true) (hy : (env.kindOf y == some .local) = true) (hz : (env.kindOf z == some .local) = true) (hl : (py.line == px.line) = true) (hl2 : (pz.line == px.line) = true)
    (hd : ([x, y, z] : List Str).eraseDups.length = 3) (h0 : ([a, b, c].any fun | .Starred .. => true | _ => false) = false) (h1 : [a, b, c].all (foldedForSure 8) = false) (h2 : [a, b, c].all (constantsAlone 8) = false) :
    swappedStores [.Tuple [.Name x px, .Name y py, .Name z pz] kt pt] (.Tuple [a, b, c] k2 pt2) env = pure (some [x, y, z]) := by
  have lx : (px.line == px.line) = true := by simp
  have ln : ([Expr.Name x px, Expr.Name y py, Expr.Name z pz].filterMap fun
      | .Name id pos => if env.kindOf id == some .local && pos.line == px.line then some id else none
      | _ => none) = [x, y, z] := by
    simp only [List.filterMap_cons, List.filterMap_nil, hx, hy, hz, hl, hl2, lx, Bool.and_self, if_true]
  unfold swappedStores
  simp only [hb]
  refine (if_neg (by simp)).trans ?_
  refine (if_neg (fun e => Bool.false_ne_true (h0.symm.trans e))).trans ?_
  generalize hF : List.filterMap _ [Expr.Name x px, Expr.Name y py, Expr.Name z pz] = F
  obtain rfl : F = [x, y, z] := hF.symm.trans ln
  refine (if_neg (by rw [hd]; simp)).trans ?_
  refine (if_neg (by rw [h1]; exact Bool.false_ne_true)).trans ?_
  rw [h2]
  rfl
def sPar3 (i j l : Nat) (ml : EM (List D)) : SM := fun env ah => (ml env ah).thenS env fun ds ah1 => match ds with
  | [x, y, z] => .nx (((env.set i (some x)).set j (some y)).set l (some z)) ah1
  | _ => .stuck
theorem reps3 {K : PySem.W.Frag} {μ : List Addr} {H : Hp} {a b c : D} {vs : List V} (h : Reps K μ H [a, b, c] vs) : ∃ u v w, vs = [u, v, w] ∧ Rep K μ H a u ∧ Rep K μ H b v ∧ Rep K μ H c w := by
  simp only [Reps] at h
  obtain ⟨u, us, rfl, h1, v, vs, rfl, h2, w, ws, rfl, h3, rfl⟩ := h
  exact ⟨u, v, w, rfl, h1, h2, h3⟩
theorem pz_par3W {X : Cx} {W : WX} {ml : EM (List D)} {pos : Pos} {i j l : Nat} {x y z : Str} {a b c : Expr} {px py pz pt pt2 : Pos} {kt k2 : Nat} (hc : X.calm = true) (hN : X.N.Nodup) (hi : X.N[i]? = some x) (hj : X.N[j]? = some y) (hl : X.N[l]? = some z) (hij : i ≠ j) (hil : i ≠ l) (hjl : j ≠ l) (hx : X.env.scope.names.lookup x = some .local) (hy : X.env.scope.names.lookup y = some .local) (hz : X.env.scope.names.lookup z = some .local) (ha : PAs X W [a, b, c] ml)
    (hb : X.env.blockKind = .function) (l1 : (py.line == px.line) = true) (l2 : (pz.line == px.line) = true)
    (hd : ([x, y, z] : List Str).eraseDups.length = 3) (h0 : ([a, b, c].any fun | .Starred .. => true | _ => false) = false) (h1 : [a, b, c].all (foldedForSure 8) = false) (h2 : [a, b, c].all (constantsAlone 8) = false) (hs : swapsWithSole [.Tuple [.Name x px, .Name y py, .Name z pz] kt pt] (.Tuple [a, b, c] k2 pt2) pos.line X.env = pure false := by rfl) :
    PZ X W (.Assign [.Tuple [.Name x px, .Name y py, .Name z pz] kt pt] (.Tuple [a, b, c] k2 pt2) pos) (sPar3 i j l ml) := by
  refine PS.weak (ps_par3 hc hN hi hj hl hij hil hjl hx hy hz ha (par_sw3 hb (by rw [show X.env.kindOf x = some .local from hx]; rfl) (by rw [show X.env.kindOf y = some .local from hy]; rfl) (by rw [show X.env.kindOf z = some .local from hz]; rfl) l1 l2 hd h0 h1 h2) hs) fun D σ H ⟨μ, env, ah, he, hs, hp⟩ => ?_
  refine ⟨μ, env, ah, he, hs, PostS.bind hp he fun ds ah1 μ1 vs H1 e1 s1 r1 p1 => ?_⟩
  split at p1
  · obtain ⟨u, v, w, rfl, ra, rb, rc⟩ := reps3 (show Reps X.K μ1 H1 _ vs from r1)
    exact ⟨u, v, w, rfl, post_next p1 s1 ((((he.ext e1).set ra i).set rb j).set rc l)⟩
  · exact p1.elim
end HA
namespace HA
open PySem PySem.Spec PyProof.Rows L2
def keyStr : Value → Option Str
  | .str x _ => some x
  | _ => none
structure CDAll (K : PySem.W.Frag) (w : World) (mg : Str → Option Value) (x : Str) (t : CTab) : Prop where
  ok : ∃ p es n, mg x = some (.ref p) ∧ K.lookup p = some ⟨.type "dict", none, .dict es n, #[]⟩ ∧ (p == sysModules) = false ∧ PySem.W.KeysLit w.params es.toList ∧ es.toList.map (fun e => keyStr e.key) = t.map (fun q => some q.1) ∧ ∀ q ∈ t, ∃ u, PySem.W.nsIn K p q.1 = some (some u) ∧ CR K u q.2
section
variable {X : Cx} {W : WX} {k : Nat} {o e f : Expr} {m mx : EM D} {apos cpos np : Pos} {td ty tx : TE}
def KGet (K : PySem.W.Frag) (p : Addr) (z : Str) (r : Option V) : Prop := (∃ u v, r = some v ∧ PySem.W.nsIn K p z = some (some u) ∧ RelV v u) ∨ (r = none ∧ PySem.W.nsIn K p z = some none)
def tKGet (K : PySem.W.Frag) (w : World) (td ty tx : TE) : TE := fun σ H Q => td σ H fun x H1 => ∃ p es n, x = .ref p ∧ K.lookup p = some ⟨.type "dict", none, .dict es n, #[]⟩ ∧ (p == sysModules) = false ∧ PySem.W.KeysLit w.params es.toList ∧ ty σ H1 fun y H2 => tx σ H2 fun z H3 => ∃ s r, y = .str s ∧ KGet K p s r ∧ Q (r.getD z) H3
def oKGet (t : CTab) : D → D → AH → Res D
  | .str z, d, ah => .ok ((t.lookup z).getD d) ah
  | _, _, _ => .stuck
end
end HA
namespace HA
open PySem PySem.Spec PyProof.Rows L2
def oJ : D → D → AH → Res D
  | .str a, .str y, ah => if y.length ≤ line ∧ (a ++ y).length ≤ line then .ok (.str (a ++ y)) ah else .stuck
  | .str a, .int i, ah => if i.natAbs.log2 < 1920 ∧ (a ++ (toString i : Str)).length ≤ line then .ok (.str (a ++ (toString i : Str))) ah else .stuck
  | _, _, _ => .stuck
def eJs (ms : List (EM D)) (a : EM D) : EM D := ms.foldl (fun a m => e2 a m oJ) a
section
variable {X : Cx} {W : WX}
inductive PJs (X : Cx) (W : WX) : List Expr → List (EM D) → Prop where
  | nil : PJs X W [] []
  | fmt {e : Expr} {m : EM D} {es : List Expr} {ms : List (EM D)} {pos : Pos} (h : PD X W e m) (r : PJs X W es ms) : PJs X W (.FormattedValue e (-1) none pos :: es) (m :: ms)
  | txt {x : Str} {es : List Expr} {ms : List (EM D)} {j} {pos : Pos} (r : PJs X W es ms) : PJs X W (.Constant (.str x) j pos :: es) (eC (.str x) :: ms)
end
end HA
namespace HA
open PySem PySem.Spec PyProof.Rows L2
def rgN (i j c : Int) : Nat := (Builtin.Range.rangeSize i j c).toNat
def rgOk (i j c : Int) : Bool := decide (c ≠ 0) && decide (c.natAbs < 1000) && Builtin.Range.small i j c && decide (0 ≤ Builtin.Range.rangeSize i j c)
def iRange3 (d f g : D) (ah : AH) : Res Itm := match d, f, g with
  | .int i, .int j, .int c => if rgOk i j c = true then .ok ⟨(List.range (rgN i j c)).map fun (n : Nat) => D.int (i + n * c), []⟩ ah else .stuck
  | _, _, _ => .stuck
theorem itc_ok {K : PySem.W.Frag} {μ : List Addr} {H : Hp} {lo c : Int} {n : Nat} {f : Nat → D} (hf : ∀ i : Nat, f i = .int (lo + i * c)) : ItOk K μ H ⟨(List.range n).map f, []⟩ (Itc lo c n) := by
  intro i μ' H' ah' e S o
  refine ⟨fun hl => (show n ≤ i by simpa using hl), fun d ed => ?_⟩
  rw [List.getElem?_map] at ed
  have hi : i < n := by
    cases q : (List.range n)[i]? with
    | none => rw [q] at ed; cases ed
    | some j => have := (List.getElem?_eq_some_iff.mp q).1; simpa using this
  refine ⟨hi, fun x H'' y => ?_⟩
  obtain ⟨eH, ex⟩ := y
  subst eH ex
  rw [List.getElem?_range hi, Option.map_some, hf] at ed
  cases ed
  exact ⟨Ext.refl, S, by simp only [Rep]⟩
section
variable {X : Cx} {W : WX} {tg : Expr}
theorem pf_range3 {a b c : Expr} {p pos : Pos} {ma mb mc : EM D} (hg : Gl X "range") (hm : X.mg "range" = none) (ha : PD X W a ma) (hb : PD X W b mb) (hc : PD X W c mc) (hs : starEach [a, b, c] X.env = (false, eval a X.env) :: starEach [b, c] X.env := by rfl) (hs2 : starEach [b, c] X.env = [(false, eval b X.env), (false, eval c X.env)] := by rfl) (hs3 : starEach [c] X.env = [(false, eval c X.env)] := by rfl) :
    PF X W tg (.Call (.Name "range" p) [a, b, c] [] pos) (e3 ma mb mc iRange3) := by
  refine PI.weak (pi_range3 hg hm (pa_cons ha (pa_cons hb (pa_cons hc pa_nil hs3) (by rw [hs2, hs3])) hs) hs (by rw [hs2]; rfl)) fun σ H R ⟨μ, env, ah, he, hs, hp⟩ => ?_
  refine ⟨μ, env, ah, he, hs, hp.bind fun d ah1 μ1 x H1 e1 s1 r1 p1 => ?_⟩
  refine tG_next he e1 s1 (p1.bind fun d2 ah2 μ2 y H2 e2 s2 r2 p2 => ?_)
  refine tG_next (he.ext e1) e2 s2 (p2.bind fun d3 ah3 μ3 z H3 e3 s3 r3 p3 => ?_)
  unfold iRange3 at p3
  split at p3
  · rename_i i j k
    split at p3
    · rename_i hl
      rw [d_int (Rep.ext (Rep.ext (show Rep X.K μ1 H1 (.int i) x from r1) e2) e3), d_int (Rep.ext (show Rep X.K μ2 H2 (.int j) y from r2) e3), d_int (show Rep X.K μ3 H3 (.int k) z from r3)]
      simp only [rgOk, Bool.and_eq_true, decide_eq_true_eq] at hl
      obtain ⟨⟨⟨h1, h2⟩, h3⟩, h4⟩ := hl
      exact ⟨i, j, k, rgN i j k, rfl, ⟨h1, by omega, h3, by unfold rgN; omega⟩, Post.ok1 (R := RI X.K) p3 s3 (itc_ok fun i => rfl)⟩
    · exact p3.elim
  · exact p3.elim
end
structure KBD (K : PySem.W.Frag) (fd : FuncData) (ps ks : List Str) (n : Nat) (g : List D → List D → List D) : Prop where
  run : ∀ (s : Shared) (us ws : List Value) (vs zs : List V) (ds fs : List D) (μ : List Addr) (H : Hp), K.In s.heap → vs.length = n → zs.length = ks.length → Vals vs us → Vals zs ws → Reps K μ H ds vs → Reps K μ H fs zs →
    ∃ us' vs', BindsTo s fd ⟨us, ks.zip ws⟩ (ps.zip us') ∧ vs'.length = ps.length ∧ Vals vs' us' ∧ Reps K μ H (g ds fs) vs'
theorem KB.kbd {K : PySem.W.Frag} {fd : FuncData} {ps ks : List Str} {n : Nat} {g : {α : Type} → List α → List α → List α} (h : KB K fd ps ks n g) : KBD K fd ps ks n (fun a b => g a b) := ⟨fun s us ws vs zs ds fs μ H kin hn hk r rz rd rf =>
  ⟨g us ws, g vs zs, h.to s us ws kin (r.length.symm.trans hn) (rz.length.symm.trans hk), h.len vs zs hn hk, h.rel hn hk r rz, h.rep (rd.length.trans hn) (rf.length.trans hk) rd rf⟩⟩
theorem Binds.kbd {K : PySem.W.Frag} {fd : FuncData} {ps : List Str} (h : Binds K fd ps []) : KBD K fd ps [] ps.length (fun a _ => a) := ⟨fun s us ws vs zs ds fs μ H kin hn hk r rz rd rf => by
  have b := h s us kin (by rw [List.append_nil, ← r.length]; exact hn)
  rw [List.append_nil] at b
  exact ⟨us, vs, b, hn, r, rd⟩⟩
section
variable {X : Cx} {W : WX} {k n : Nat} {f : Addr} {fd : FuncData} {ps ks : List Str} {mf : List D → AH → Res D} {x : Str} {p pos : Pos} {e : Expr} {es : List Expr} {ml mk : EM (List D)} {kws : List Keyword} {g : List D → List D → List D}
inductive Args (X : Cx) (W : WX) (pos : Pos) : List Expr → List Keyword → EM (List D) → EM (List D) → Nat → List Str → Prop where
  | none : Args X W pos [] [] aNil aNil 0 []
  | pos {e : Expr} {es : List Expr} {ml : EM (List D)} {n : Nat} (ha : PAs X W (e :: es) ml) (hn : Many n ml) (he : starEach (e :: es) X.env = (false, eval e X.env) :: starEach es X.env := by rfl) (hpl : (backTo pos (starEach es X.env)).any (·.1) = false := by rfl) : Args X W pos (e :: es) [] ml aNil n []
  | kw {kws : List Keyword} {mk : EM (List D)} {ks : List Str} (hkw : PKs X W kws mk) (hn : Many ks.length mk) (hall : (backToKw pos (keywordEach kws X.env)).all (·.1.isSome) = true := by rfl) (hks : (backToKw pos (keywordEach kws X.env)).filterMap (·.1) = ks := by rfl)
    (hpl : ((backTo pos (starEach [] X.env)).any (·.1) || (backToKw pos (keywordEach kws X.env)).any (·.1.isNone)) = false := by rfl) : Args X W pos [] kws aNil mk 0 ks
  | both {e : Expr} {es : List Expr} {kws : List Keyword} {ml mk : EM (List D)} {n : Nat} {ks : List Str} (ha : PAs X W (e :: es) ml) (hn : Many n ml) (hkw : PKs X W kws mk) (hn2 : Many ks.length mk) (hall : (backToKw pos (keywordEach kws X.env)).all (·.1.isSome) = true := by rfl) (hks : (backToKw pos (keywordEach kws X.env)).filterMap (·.1) = ks := by rfl)
    (he : starEach (e :: es) X.env = (false, eval e X.env) :: starEach es X.env := by rfl) (hpl : ((backTo pos (starEach (e :: es) X.env)).any (·.1) || (backToKw pos (keywordEach kws X.env)).any (·.1.isNone)) = false := by rfl) : Args X W pos (e :: es) kws ml mk n ks
theorem Args.run {es : List Expr} {kws : List Keyword} {F : List D → List D → AH → Res D} (A : Args X W pos es kws ml mk n ks) (hk : PySem.W.keepIn X.K (.ref f) = true) (first : List Value) {pins : List (Addr × Obj)} {σ : L2.St} {H : Hp} {s : Shared} {Q : VK} {μ : List Addr} {env : Env} {ah : AH}
    (I : Inv X pins σ H s) (hE : EnvRel X.K μ H env σ) (hs : Sim X.K μ H ah) (hp : Post X.K (RD X.K) (fun c d H' => W c d σ H') μ H Q (e2 ml mk F env ah))
    (k : ∀ us ws vs zs ds fs μ2 H2 ah2 s2, Inv X pins σ H2 s2 → vs.length = n → zs.length = ks.length → Vals vs us → Vals zs ws → Ext X.K μ H μ2 H2 → Sim X.K μ2 H2 ah2 → Reps X.K μ2 H2 ds vs → Reps X.K μ2 H2 fs zs → Post X.K (RD X.K) (fun c d H' => W c d σ H') μ2 H2 Q (F ds fs ah2) →
      wpAny (model X.prog X.w) X.A (call (.ref f) (first ++ us) (ks.zip ws)) (EP X pins σ Q) X.xe s2) :
    wpAny (model X.prog X.w) X.A (callWith pos (.ref f) first (backTo pos (starEach es X.env)) (backToKw pos (keywordEach kws X.env))) (EP X pins σ Q) X.xe s := by
  cases A with
  | none =>
    have z := k [] [] [] [] [] [] μ H ah s I rfl rfl .nil .nil Ext.refl hs Reps.nil Reps.nil hp
    exact PySem.W.callWith_K0 I.kIn hk z
  | pos ha hn he hpl =>
    refine PySem.W.callWith_K (h₀ := X.base) I.ok.mod.kin hk (thn (ha.run pos pins s σ H (fun vs H1 => vs.length = n ∧ ∃ μ1 ah1 ds, Ext X.K μ H μ1 H1 ∧ Sim X.K μ1 H1 ah1 ∧ Reps X.K μ1 H1 ds vs ∧ Post X.K (RD X.K) (fun c d H' => W c d σ H') μ1 H1 Q (F ds [] ah1)) I
      ⟨μ, env, ah, hE, hs, Post.many hn (hp.bind fun ds ah1 μ1 vs H1 e1 s1 r1 p1 hl => ⟨hl, μ1, ah1, ds, e1, s1, r1, p1⟩)⟩) fun us s1 hz => ?_) he hpl
    obtain ⟨vs, H1, I1, r, hl, μ1, ah1, ds, x1, s1', rd, p1⟩ := hz
    exact ⟨I1.kIn, k us [] vs [] ds [] μ1 H1 ah1 s1 I1 hl rfl r .nil x1 s1' rd Reps.nil p1⟩
  | kw hkw hn hall hks hpl =>
    have hp : Post X.K (RD X.K) (fun c d H' => W c d σ H') μ H Q ((mk env ah).bind fun fs ah2 => F [] fs ah2) := hp
    refine PySem.W.callWith_KW0 (h₀ := X.base) I.ok.mod.kin hk hall (thn (hkw.pk.run pos pins s σ H (fun zs H1 => zs.length = ks.length ∧ ∃ μ1 ah1 fs, Ext X.K μ H μ1 H1 ∧ Sim X.K μ1 H1 ah1 ∧ Reps X.K μ1 H1 fs zs ∧ Post X.K (RD X.K) (fun c d H' => W c d σ H') μ1 H1 Q (F [] fs ah1)) I
      ⟨μ, env, ah, hE, hs, Post.many hn (hp.bind fun fs ah1 μ1 zs H1 e1 s1 r1 p1 hl => ⟨hl, μ1, ah1, fs, e1, s1, r1, p1⟩)⟩) fun ws s1 hz => ?_) hpl
    obtain ⟨zs, H1, I1, rz, hl, μ1, ah1, fs, x1, s1', rf, p1⟩ := hz
    rw [hks]
    exact ⟨I1.kIn, k [] ws [] zs [] fs μ1 H1 ah1 s1 I1 rfl hl .nil rz x1 s1' Reps.nil rf p1⟩
  | both ha hn hkw hn2 hall hks he hpl =>
    refine PySem.W.callWith_KW (h₀ := X.base) I.ok.mod.kin hk hall (thn (ha.run pos pins s σ H (fun vs H1 => vs.length = n ∧ ∃ μ1 ah1 ds, EnvRel X.K μ1 H1 env σ ∧ Ext X.K μ H μ1 H1 ∧ Sim X.K μ1 H1 ah1 ∧ Reps X.K μ1 H1 ds vs ∧ Post X.K (RD X.K) (fun c d H' => W c d σ H') μ1 H1 Q ((mk env ah1).bind fun fs ah2 => F ds fs ah2)) I
      ⟨μ, env, ah, hE, hs, Post.many hn (hp.bind fun ds ah1 μ1 vs H1 e1 s1 r1 p1 hl => ⟨hl, μ1, ah1, ds, hE.ext e1, e1, s1, r1, p1⟩)⟩) fun us s1 hz => ?_) hpl he
    obtain ⟨vs, H1, I1, r, hl, μ1, ah1, ds, hE1, x1, s1', rd, p1⟩ := hz
    refine thn (hkw.pk.run pos pins s1 σ H1 (fun zs H2 => zs.length = ks.length ∧ ∃ μ2 ah2 fs, Ext X.K μ1 H1 μ2 H2 ∧ Sim X.K μ2 H2 ah2 ∧ Reps X.K μ2 H2 fs zs ∧ Post X.K (RD X.K) (fun c d H' => W c d σ H') μ2 H2 Q (F ds fs ah2)) I1
      ⟨μ1, env, ah1, hE1, s1', Post.many hn2 (p1.bind fun fs ah2 μ2 zs H2 e2 s2 r2 p2 hl2 => ⟨hl2, μ2, ah2, fs, e2, s2, r2, p2⟩)⟩) fun ws s2 hz => ?_
    obtain ⟨zs, H2, I2, rz, hl2, μ2, ah2, fs, x2, s2', rf, p2⟩ := hz
    rw [hks]
    exact ⟨I2.kIn, k us ws vs zs ds fs μ2 H2 ah2 s2 I2 hl hl2 r rz (x1.trans x2) s2' (Reps.ext rd x2) rf p2⟩
def eMeth (m : Str) (t : MTab) (g : List D → List D → List D) (mo : EM D) (ml mk : EM (List D)) : EM D := fun env ah => (mo env ah).bind fun d ah1 => match d with
  | .ref n => match ah1[n]? with
    | some (.ins C kvs) => if kvs.lookup m = none then match t.lookup C with
      | some mf => e2 ml mk (fun ds fs => mf (g (d :: ds) fs)) env ah1
      | none => .stuck else .stuck
    | _ => .stuck
  | _ => .stuck
structure MthOk (P : Program) (w : World) (K : PySem.W.Frag) (mg : Str → Option Value) (base : Heap) (k : Nat) (name : Str) (ks : List Str) (n : Nat) (g : List D → List D → List D) (C : Str) (m : List D → AH → Res D) : Prop where
  ok : ∃ f fd ps, Cls K (gA K C) ∧ Meth K (gA K C) name f ∧ FnG P w K mg base k f fd ps m ∧ KBD K fd ps ks n g
end
end HA
namespace HZ
open PySem PySem.Spec PyProof.Rows L2
def ItqX (K : PySem.W.Frag) (N : Nat) (x : Str) (q : Bool × Addr) : It :=
  ⟨fun i H => i < N ∧ ∃ (c : Nat) (ys : List V) (y : V), x.cps[i]? = some c ∧ PtAt K H q ys ∧ ys[i]? = some y,
    fun i H v H' => ∃ T c y, v = .ref T ∧ H T = none ∧ H' = upd H T (.tup [.str ⟨#[c]⟩, y]) ∧ x.cps[i]? = some c ∧ ∀ ys, PtAt K H q ys → ys[i]? = some y,
    fun i H => N ≤ i ∧ ∃ ys : List V, PtAt K H q ys ∧ N ≤ x.cps.size ∧ N ≤ ys.length ∧ (N = x.cps.size ∨ N = ys.length)⟩
end HZ
namespace HA
open PySem PySem.Spec PyProof.Rows L2
def charsD (x : Str) : List D := x.cps.toList.map fun c => D.str ⟨#[c]⟩
def iZipX (d e : D) (ah : AH) : Res Itm := match d, partOf e ah with
  | .str x, some (ys, g) => .ok ⟨pairsD (charsD x) ys, g⟩ ah
  | _, _ => .stuck
section
variable {X : Cx} {W : WX} {e f : Expr} {m m2 : EM D} {p pos tpos : Pos} {elts : List Expr} {kk : Nat}
end
end HA
namespace HA
open PySem PySem.Spec PyProof.Rows L2
def tFin (tb : WX → TS) (tf tfs : TS) (Wout : WX) : TS := fun D σ H => tb (wFin tfs Wout) { nx := fun σ1 H1 => tf D σ1 H1, rt := fun _ _ => False } σ H
section
variable {X : Cx} {body : List Stmt} {f₀ : Stmt} {fs : List Stmt} {pos : Pos} {tb : WX → TS} {tf tfs : TS} {Wout : WX}
end
def sFin (mb mf : SM) : SM := fun env ah => match mb env ah with
  | .nx env1 ah1 => noX (mf env1 ah1)
  | .exn c fs env1 ah1 => match mf env1 ah1 with
    | .nx env2 ah2 => .exn c fs env2 ah2
    | _ => .stuck
  | _ => .stuck
theorem ExnOk.ext {K : PySem.W.Frag} {μ μ' : List Addr} {H H' : Hp} {fs : Flds} {od : Option Addr} (h : ExnOk K μ H fs od) (x : Ext K μ H μ' H') : ExnOk K μ' H' fs od := by
  cases fs with
  | none => exact h
  | some l =>
    obtain ⟨d, fws, rfl, e, k, r⟩ := h
    exact ⟨d, fws, rfl, x.tup.2 _ _ e, k, Reps.ext r x⟩
section
variable {X : Cx} {W : WX} {body : List Stmt} {f₀ : Stmt} {fs : List Stmt} {mb mf : SM} {pos : Pos}
end
def oAddI (x y : D) (ah : AH) : Res D := match x, y with
  | .int i, .int j => .ok (.int (i + j)) ah
  | _, _ => .stuck
section
variable {X : Cx} {W : WX} {o i : Expr} {mo mi : EM D} {pos tpos cp : Pos} {ji : Nat}
def sAugL (mo mi : EM D) (j : Int) : SM := fun env ah => (mo env ah).thenS env fun d ah1 => (mi env ah1).thenS env fun kd ah2 => match d, kd with
  | .ref n, .int i => match ah2[n]? with
    | some (.lst xs) => match ixN xs.length i with
      | some q => match xs[q]? with
        | some (.int x) => .nx env (ah2.set n (.lst (xs.set q (.int (x + j)))))
        | _ => .stuck
      | none => .stuck
    | _ => .stuck
  | _, _ => .stuck
end
def gFld (K : PySem.W.Frag) (ta : TE) (f : Str) : TG := fun y σ H Q => ta σ H fun x H2 => ∃ a C dx fs, x = .ref a ∧ H2 a = some (.ins C dx fs) ∧ Cls K C ∧ NoAttr K C f ∧ fs.length < 1000 ∧ Q σ (upd H2 a (.ins C dx (putF f y fs)))
section
variable {X : Cx} {W : WX} {o o2 v : Expr} {pos p1 p2 : Pos} {mo mo2 : EM D} {d : D}
end
end HA
namespace HA
open PySem PySem.Spec PyProof.Rows L2
structure KwF (K : PySem.W.Frag) (x qual : Str) (st : Stmt) (fd : FuncData) (cs : List (Str × D)) : Prop where
  ex : ∃ (D : Addr) (doc pm : Value) (an : Option Addr) (cdv ct : Value), fd = PySem.W.fnOf x qual (defArgs st) (defBody st) (defScope st) .none (.ref D) doc pm an cdv ct ∧ ∀ q ∈ cs, ∃ u, PySem.W.nsIn K D q.1 = some (some u) ∧ CR K u q.2
section
variable {X : Cx} {W : WX} {k n : Nat} {C : Str} {f : Addr} {fd : FuncData} {ps ks : List Str} {mi : List D → AH → Res D} {g : List D → List D → List D} {es : List Expr} {kws : List Keyword} {ml mk : EM (List D)} {p pos : Pos}
end
section
variable {P : Program} {w : World} {K : PySem.W.Frag} {h : Heap} {mg : Str → Option Value}
structure MT (K : PySem.W.Frag) (C name qual : Str) (st : Stmt) where
  a : Addr
  fd : FuncData
  F : Fun K name qual st a fd
  cl : Cls K (gA K C)
  M : Meth K (gA K C) name a
def mt_mk {C name qual : Str} {st : Stmt} {c f : Addr} {oc : Value} {od an : Option Addr} {osl : Array (Option Value)} {kV doc pm cdv ct : Value}
    (l : K.lookup f = some ⟨oc, od, .func (PySem.W.fnOf name qual (defArgs st) (defBody st) (defScope st) .none kV doc pm an cdv ct), osl⟩) (n : PySem.W.nsIn K mainGlobals C = some (some (.ref c)))
    (cd : PySem.W.codeIn K cdv qual = true) (k : PySem.W.keepIn K (.ref f) = true) (m2 : PySem.W.findIn K (.ref c) name = some (some (.ref f))) (m3 : PySem.W.isFn K (.ref f) = true)
    (a1 : PySem.W.plainGet K c Str.empty = true) (a2 : PySem.W.hasDictIn K c = true) (a3 : PySem.W.plainOver K c = true) (a4 : PySem.W.findIn K (.ref c) "__setattr__" = some (some (.builtin "object.__setattr__"))) : MT K C name qual st :=
  ⟨f, _, fun_mk l cd k, by rw [gA_of n]; exact ⟨a1, a2, a3, a4⟩, by rw [gA_of n]; exact ⟨m2, m3, k⟩⟩
theorem MT.kw {C name qual : Str} {st : Stmt} {c f D : Addr} {oc : Value} {od an : Option Addr} {osl : Array (Option Value)} {doc pm cdv ct : Value} {cs : List (Str × HA.D)}
    (l : K.lookup f = some ⟨oc, od, .func (PySem.W.fnOf name qual (defArgs st) (defBody st) (defScope st) .none (.ref D) doc pm an cdv ct), osl⟩) (n : PySem.W.nsIn K mainGlobals C = some (some (.ref c)))
    (cd : PySem.W.codeIn K cdv qual = true) (k : PySem.W.keepIn K (.ref f) = true) (m2 : PySem.W.findIn K (.ref c) name = some (some (.ref f))) (m3 : PySem.W.isFn K (.ref f) = true)
    (a1 : PySem.W.plainGet K c Str.empty = true) (a2 : PySem.W.hasDictIn K c = true) (a3 : PySem.W.plainOver K c = true) (a4 : PySem.W.findIn K (.ref c) "__setattr__" = some (some (.builtin "object.__setattr__"))) (hq : ∀ q ∈ cs, ∃ u, PySem.W.nsIn K D q.1 = some (some u) ∧ CR K u q.2) :
    KwF K name qual st (mt_mk l n cd k m2 m3 a1 a2 a3 a4).fd cs := ⟨D, doc, pm, an, cdv, ct, rfl, hq⟩
theorem TFk.kw (X : K.In h) (G : h.Ns mainGlobals mg) {x : Str} {st : Stmt} {f D : Addr} {oc : Value} {od an : Option Addr} {osl : Array (Option Value)} {doc pm cdv ct : Value} {cs : List (Str × HA.D)}
    (l : K.lookup f = some ⟨oc, od, .func (PySem.W.fnOf x x (defArgs st) (defBody st) (defScope st) .none (.ref D) doc pm an cdv ct), osl⟩) (n : PySem.W.nsIn K mainGlobals x = some (some (.ref f)))
    (c : PySem.W.codeIn K cdv x = true) (k : PySem.W.keepIn K (.ref f) = true) (hq : ∀ q ∈ cs, ∃ u, PySem.W.nsIn K D q.1 = some (some u) ∧ CR K u q.2) :
    KwF K x x st (tfk_mk X G l n c k).fd cs := ⟨D, doc, pm, an, cdv, ct, rfl, hq⟩
theorem CT.kw (X : K.In h) (G : h.Ns mainGlobals mg) {C q : Str} {st : Stmt} {c f D : Addr} {oc : Value} {od an : Option Addr} {osl : Array (Option Value)} {doc pm cdv ct : Value} {cs : List (Str × HA.D)}
    (l : K.lookup f = some ⟨oc, od, .func (PySem.W.fnOf "__init__" q (defArgs st) (defBody st) (defScope st) .none (.ref D) doc pm an cdv ct), osl⟩) (n : PySem.W.nsIn K mainGlobals C = some (some (.ref c)))
    (cd : PySem.W.codeIn K cdv q = true) (k : PySem.W.keepIn K (.ref f) = true) (m1 : PySem.W.makesIn K c = true) (m2 : PySem.W.findIn K (.ref c) "__init__" = some (some (.ref f))) (m3 : PySem.W.isFn K (.ref f) = true) (m4 : PySem.W.keepIn K (.ref c) = true) (hq : ∀ q ∈ cs, ∃ u, PySem.W.nsIn K D q.1 = some (some u) ∧ CR K u q.2) :
    KwF K "__init__" q st (ct_mk X G l n cd k m1 m2 m3 m4).fd cs := ⟨D, doc, pm, an, cdv, ct, rfl, hq⟩
end
end HA
namespace HA
open PySem PySem.Spec PyProof.Rows L2
def oLenM (t : MTab) (ds : List D) (ah : AH) : Res D := match ds with
  | [.ref n] => match ah[n]? with
    | some (.ins C _) => match t.lookup C with
      | some mf => match mf [.ref n] ah with
        | .ok (.int i) ah2 => if 0 ≤ i ∧ i < 2 ^ 63 then .ok (.int i) ah2 else .stuck
        | _ => .stuck
      | none => .stuck
    | _ => .stuck
  | _ => .stuck
def eLenM (t : MTab) (mo : EM D) : EM D := e1 (aCons mo aNil) (oLenM t)
structure LenOk (P : Program) (w : World) (K : PySem.W.Frag) (mg : Str → Option Value) (base : Heap) (k : Nat) (C : Str) (m : List D → AH → Res D) : Prop where
  ok : ∃ f fd, PySem.W.findIn K (.ref (gA K C)) "__len__" = some (some (.ref f)) ∧ PySem.W.isFn K (.ref f) = true ∧ FnG P w K mg base k f fd ["self"] m ∧ Binds K fd ["self"] []
open Builtin in
section
variable {X : Cx} {W : WX} {k : Nat} {t : MTab}
end
def sStuck : SM := fun _ _ => .stuck
end HA
namespace HA
open PySem PySem.Spec PyProof.Rows L2
section
variable {prog : Program} {w : World} {A : Around} {E : Value → Shared → Prop} {s : Shared}
end
structure RmH (k : Nat) (A : Around) : Prop where
  room : L2H.RoomH k A
  gd : A.guards = some []
theorem RmH.mono {j k : Nat} {A : Around} (r : RmH k A) (h : j ≤ k) : RmH j A := ⟨r.room.mono h, r.gd⟩
structure FnGH (P : Program) (w : World) (K : PySem.W.Frag) (mg : Str → Option Value) (base : Heap) (k : Nat) (f : Addr) (fd : FuncData) (ps : List Str) (m : List D → AH → Res D) : Prop where
  run : ∀ (A : Around) (lo : List PySem.Env) (s : Shared) (H : Hp) (args : PySem.Args) (us : List Value) (vs : List V) (Q : VK) (E : XK) (μ : List Addr) (ds : List D) (ah : AH) (p : Addr × Obj), RmH k A → L2H.Hot1 A p → L2H.PinOk lo H s p → Env0 P w K mg base A lo s H → BindsTo s fd args (ps.zip us) → Vals vs us → vs.length = ps.length →
    Sim K μ H ah → Reps K μ H ds vs → Post K (RD K) (fun c d H' => E c d H') μ H Q (m ds ah) → codeAny (model P w) A (.call (.ref f) args) (L2.CR (CXf K P w) lo P w H s Q E) s
section
variable {P : Program} {w : World} {K : PySem.W.Frag} {mg : Str → Option Value} {base : Heap}
theorem FnGH.mono {j k : Nat} {f : Addr} {fd : FuncData} {ps : List Str} {m : List D → AH → Res D} (F : FnGH P w K mg base j f fd ps m) (h : j ≤ k) : FnGH P w K mg base k f fd ps m :=
  ⟨fun A lo s H args us vs Q E μ ds ah p hr => F.run A lo s H args us vs Q E μ ds ah p (hr.mono h)⟩
end
section
variable {X : Cx} {W : WX} {k : Nat} {f : Addr} {fd : FuncData} {ps ks : List Str} {m : List D → AH → Res D}
structure MthOkH (P : Program) (w : World) (K : PySem.W.Frag) (mg : Str → Option Value) (base : Heap) (k : Nat) (name : Str) (ks : List Str) (n : Nat) (g : List D → List D → List D) (C : Str) (m : List D → AH → Res D) : Prop where
  ok : ∃ f fd ps, Cls K (gA K C) ∧ Meth K (gA K C) name f ∧ FnGH P w K mg base k f fd ps m ∧ KBD K fd ps ks n g
end
section
variable {i : Nat}
end
end HA
namespace HA
open PySem PySem.Spec PyProof.Rows L2
def cGtB : D → D → AH → Res Bool
  | .bl b, .int j, ah => .ok (decide (j < dI b)) ah
  | x, y, ah => cGt x y ah
variable {X : Cx}
end HA
namespace HA
open PySem PySem.Spec PyProof.Rows L2
def oIntS : List D → AH → Res D
  | [.str a], ah => if a.length ≤ 640 then match PySem.intText? a with
      | some n => .ok (.int n) ah
      | none => .stuck else .stuck
  | ds, ah => oInt ds ah
variable {X : Cx}
end HA
namespace HA
open PySem PySem.Spec PyProof.Rows L2
def mCountS : D → List D → AH → Res D
  | .str a, [.str b], ah => .ok (.int (Txt.count a b)) ah
  | _, _, _ => .stuck
def signs (x : Str) : List Str := x.cps.toList.map fun c => ⟨#[c]⟩
def RS : Rel (List D) V := ⟨fun _ _ _ ds v => ∃ z : Str, v = .str z ∧ z.length ≤ line ∧ ds = chars z, fun _ h => h⟩
def sChars (d : D) (ah : AH) : Res (List D) := match d with
  | .str z => if z.length ≤ line then .ok (chars z) ah else .stuck
  | _ => .stuck
section
variable {X : Cx} {W : WX} {e : Expr} {m : EM D}
end
end HA
namespace HA
open PySem PySem.Spec PyProof.Rows L2
def pairD : D → Option (Key × D)
  | .tup [a, b] => (dKey a).map fun kk => (kk, b)
  | _ => none
def sDict (ds : List D) (ah : AH) : Res D := match optAll pairD ds with
  | some kvs => .ok (.ref ah.length) (ah ++ [.dK (dispD kvs)])
  | none => .stuck
theorem pairD_eq {d : D} {kv : Key × D} (h : pairD d = some kv) : ∃ a, d = .tup [a, kv.2] ∧ dKey a = some kv.1 := by
  unfold pairD at h
  split at h
  · obtain ⟨kk, hk, rfl⟩ := Option.map_eq_some_iff.mp h
    exact ⟨_, rfl, hk⟩
  · cases h
theorem prs_rel {K : PySem.W.Frag} {μ : List Addr} {H : Hp} : ∀ {ds : List D} {vs : List V} {kvs : List (Key × D)}, optAll pairD ds = some kvs → Reps K μ H ds vs →
    ∃ (ps : List Addr) (kws : List (Key × V)), vs = ps.map V.ref ∧ Paired (fun p kv => SqT K H p [kV kv.1, kv.2]) ps kws ∧ kvs.map (·.1) = kws.map (·.1) ∧ Reps K μ H (kvs.map (·.2)) (kws.map (·.2))
  | [], vs, kvs, h, r => by
    cases h
    simp only [Reps] at r
    subst r
    exact ⟨[], [], rfl, .nil, rfl, Reps.nil⟩
  | d :: ds, vs, kvs, h, r => by
    obtain ⟨kv, cs, rfl, h1, h2⟩ := optAll_cons h
    obtain ⟨a, rfl, hk⟩ := pairD_eq h1
    simp only [Reps] at r
    obtain ⟨v, ws, rfl, r1, r2⟩ := r
    obtain ⟨p, us, rfl, q, r3⟩ := d_tup (show Rep K μ H (.tup [a, kv.2]) v from r1)
    obtain ⟨ps, kws, rfl, hp, e3, r4⟩ := prs_rel h2 r2
    simp only [Reps] at r3
    obtain ⟨x, _, rfl, ra, y, _, rfl, rb, rfl⟩ := r3
    refine ⟨p :: ps, (kv.1, y) :: kws, rfl, .cons ?_ hp, by simp [e3], Reps.cons rb r4⟩
    rw [dKey_v hk ra] at q
    exact q
theorem cs_dict {X : Cx} (hc : X.calm = true) : CallS X (RM X.K) (RD X.K) (.type "dict") sDict := fun W => by
  refine CallR.imp (call_dictP hc) fun vs H Q ⟨μ, ah, ds, x, H₀, ev, S, ⟨a, ws, ex, q, r⟩, hp⟩ => ?_
  subst ev ex
  unfold sDict at hp
  split at hp
  · rename_i kvs ek
    obtain ⟨ps, kws, rfl, hpr, e1, r1⟩ := prs_rel ek r
    refine ⟨a, ps, kws, rfl, q, hpr, fun p hp0 => ?_⟩
    have hE : Ext X.K μ H (μ ++ [p]) (upd H p (.dK (mergeK [] kws))) := Ext.ours hp0 (by rw [S.len]; exact S.pos)
    have rr : Reps X.K (μ ++ [p]) (upd H p (.dK (mergeK [] kws))) (kvs.map (·.2)) (kws.map (·.2)) := Reps.ext r1 hE
    obtain ⟨z1, z2⟩ := disp_rel (K := X.K) (acc := []) (bcc := []) e1 rr rfl Reps.nil
    refine hp (μ ++ [p]) (.ref p) _ hE (S.new hp0 rfl ⟨_, upd_same, z1, z2⟩) ?_
    show Rep _ _ _ _ _
    simp only [Rep]
    exact ⟨p, by rw [← S.len]; simp, rfl⟩
  · exact hp.elim
end HA
namespace HA
open PySem PySem.Spec PyProof.Rows L2
section
variable {prog : Program} {w : World} {A : Around} {E : Value → Shared → Prop} {s : Shared}
end
section
variable {X : Cx}
def gTail (K : PySem.W.Frag) (to ti : TE) : TG := fun v σ H Q => to σ H fun x H1 => ti σ H1 fun y H2 => ∃ (a b : Addr) (xs ys : List V) (i : Int), x = .ref a ∧ v = .ref b ∧ y = .int i ∧ 0 ≤ i ∧ i ≤ xs.length ∧ a ≠ b ∧ H2 a = some (.lst xs) ∧ H2 b = some (.lst ys) ∧ xs.length + ys.length ≤ sizeLine ∧ Q σ (upd H2 a (.lst (xs.take i.toNat ++ ys)))
end
def sTail (mo mi mv : EM D) : SM := fun env ah => (mv env ah).thenS env fun v ah1 => (mo env ah1).thenS env fun d ah2 => (mi env ah2).thenS env fun kd ah3 => match d, kd, v with
  | .ref n, .int i, .ref m => match ah3[n]?, ah3[m]? with
    | some (.lst xs), some (.lst ys) => if 0 ≤ i ∧ i ≤ xs.length ∧ n ≠ m ∧ xs.length + ys.length ≤ line then .nx env (ah3.set n (.lst (xs.take i.toNat ++ ys))) else .stuck
    | _, _ => .stuck
  | _, _, _ => .stuck
section
variable {X : Cx} {W : WX} {o lo v : Expr} {mo mi mv : EM D} {pos pos' p2 : Pos}
end
end HA
namespace HL
open PySem PySem.Spec PyProof.Rows L2 HA
def top (i : Nat) : Stmt := PySem.Challenge.pw_heldaddresses_k09_rows_at_paths.main.body.getD i (.Pass ⟨0, 0, 0, 0⟩)
abbrev s_is_whole : Stmt := top 1
abbrev s_is_within : Stmt := top 2
abbrev s_inner_of : Stmt := top 6
abbrev s_rows_in : Stmt := top 7
abbrev s_is_number_below : Stmt := top 8
abbrev s_rows_around : Stmt := top 9
abbrev s_row_at : Stmt := top 10
abbrev s__law_deck : Stmt := top 12
abbrev s__law_draw : Stmt := top 13
abbrev s__law_pick : Stmt := top 14
abbrev s__law_number : Stmt := top 15
abbrev s__law_operand : Stmt := top 16
abbrev s__law_straight : Stmt := top 17
abbrev s__law_row : Stmt := top 18
abbrev s__law_rows : Stmt := top 19
abbrev s__law_program : Stmt := top 20
abbrev s__law_paths : Stmt := top 21
abbrev s__law_others : Stmt := top 22
abbrev s__law_right : Stmt := top 23
abbrev s_law : Stmt := top 24
def c_IF : D := .str "if"
def c_AGAIN : D := .str "again"
def clss : List (Str × List Str) := []
def stab : STab := []
def xtab : XTab := []
structure Txt (K : PySem.W.Frag) (w : World) (mg : Str → Option Value) where
  is_whole : TF K mg "is_whole" s_is_whole ["thing"]
  is_within : TF K mg "is_within" s_is_within ["thing", "least", "most"]
  inner_of : TF K mg "inner_of" s_inner_of ["row"]
  rows_in : TF K mg "rows_in" s_rows_in ["program"]
  is_number_below : TF K mg "is_number_below" s_is_number_below ["thing", "most"]
  rows_around : TF K mg "rows_around" s_rows_around ["program", "path"]
  row_at : TF K mg "row_at" s_row_at ["program", "path"]
  _law_deck : TF K mg "_law_deck" s__law_deck ["_law_script"]
  _law_draw : TF K mg "_law_draw" s__law_draw ["_law_deck_here", "_law_size"]
  _law_pick : TF K mg "_law_pick" s__law_pick ["_law_deck_here", "_law_some"]
  _law_number : TF K mg "_law_number" s__law_number ["_law_deck_here"]
  _law_operand : TF K mg "_law_operand" s__law_operand ["_law_deck_here"]
  _law_straight : TF K mg "_law_straight" s__law_straight ["_law_deck_here"]
  _law_row : TF K mg "_law_row" s__law_row ["_law_deck_here", "_law_deep", "_law_left"]
  _law_rows : TF K mg "_law_rows" s__law_rows ["_law_deck_here", "_law_deep", "_law_left", "_law_fewest"]
  _law_program : TF K mg "_law_program" s__law_program ["_law_deck_here"]
  _law_paths : TF K mg "_law_paths" s__law_paths ["_law_rows_here"]
  _law_others : TF K mg "_law_others" s__law_others ["_law_deck_here", "_law_path"]
  _law_right : TF K mg "_law_right" s__law_right ["_law_program_here", "_law_known", "_law_path"]
  law : TF K mg "law" s_law ["_law_script"]
  n_bool : mg "bool" = none
  n_dict : mg "dict" = none
  n_enumerate : mg "enumerate" = none
  n_int : mg "int" = none
  n_isinstance : mg "isinstance" = none
  n_len : mg "len" = none
  n_list : mg "list" = none
  n_range : mg "range" = none
  n_repr : mg "repr" = none
  n_str : mg "str" = none
  n_sum : mg "sum" = none
  n_tuple : mg "tuple" = none
  c_IF : ∃ u, mg "IF" = some u ∧ CR K u c_IF
  c_AGAIN : ∃ u, mg "AGAIN" = some u ∧ CR K u c_AGAIN
section
variable {P : Program} {w : World} {K : PySem.W.Frag} {mg : Str → Option Value} {base : Heap}
theorem sc_is_whole : FnScope ["thing"] ["thing"] (defScope s_is_whole) := ⟨rfl, rfl, rfl, by decide +kernel, rfl, by decide +kernel, by decide +kernel⟩
def b_is_whole : SM := (sRet (eAnd (e1 (aCons (eVar 0) (aCons (eC (.cst (.ty "int"))) aNil)) oIsi) (eNot (e1 (aCons (eVar 0) (aCons (eC (.cst (.ty "bool"))) aNil)) oIsi))))
def m_is_whole : List D → AH → Res D := fnR 1 1 b_is_whole
theorem ok_is_whole (T : Txt K w mg) : FnG P w K mg base 1 T.is_whole.a T.is_whole.fd ["thing"] m_is_whole := by
  refine fnG_R T.is_whole.F sc_is_whole (fun cdv A lo s H E hr => ?_)
  exact (pzs_one (pz_ret (pd_and (pd_callB cd_isi rfl T.n_isinstance (by decide +kernel) (pas_cons (pd_var 0) (pas_cons (pd_ty rfl T.n_int (by decide +kernel)) pas_nil))) (pd_one (pd_not (pd_callB cd_isi rfl T.n_isinstance (by decide +kernel) (pas_cons (pd_var 0) (pas_cons (pd_ty rfl T.n_bool (by decide +kernel)) pas_nil))))))))
theorem sc_is_within : FnScope ["thing", "least", "most"] ["thing", "least", "most"] (defScope s_is_within) := ⟨rfl, rfl, rfl, by decide +kernel, rfl, by decide +kernel, by decide +kernel⟩
def b_is_within : SM := (sRet (eAnd (e1 (aCons (eVar 0) aNil) m_is_whole) (eB (bChain (eVar 1) (eVar 0) (eVar 2) cLe cLe))))
def m_is_within : List D → AH → Res D := fnR 3 3 b_is_within
theorem ok_is_within (T : Txt K w mg) : FnG P w K mg base 2 T.is_within.a T.is_within.fd ["thing", "least", "most"] m_is_within := by
  have H_is_whole : FnG P w K mg base 1 T.is_whole.a T.is_whole.fd ["thing"] (m_is_whole) := (ok_is_whole T).mono (by omega)
  refine fnG_R T.is_within.F sc_is_within (fun cdv A lo s H E hr => ?_)
  exact (pzs_one (pz_ret (pd_and (pd_call H_is_whole hr rfl T.is_whole.g T.is_whole.k T.is_whole.b (takes_f rfl rfl rfl rfl) (pas_cons (pd_var 0) pas_nil) (many_cons many_nil)) (pd_one (pd_chain od_le od_le (pd_var 1) (pd_var 0) (pd_var 2))))))
theorem sc_inner_of : FnScope ["row"] ["row"] (defScope s_inner_of) := ⟨rfl, rfl, rfl, by decide +kernel, rfl, by decide +kernel, by decide +kernel⟩
def b_inner_of : SM := (sSeq (sIf (e2 (e2 (eVar 0) (eC (.int 0)) oIx) (eC c_IF) cEq) (sRet (e3 (eVar 0) (oPart (some (eC (.int 2)))) (oPart none) oCut)) sSkip) (sSeq (sIf (e2 (e2 (eVar 0) (eC (.int 0)) oIx) (eC c_AGAIN) cEq) (sRet (e3 (eVar 0) (oPart (some (eC (.int 2)))) (oPart none) oCut)) sSkip) (sRet (eTup aNil))))
def m_inner_of : List D → AH → Res D := fnR 1 1 b_inner_of
theorem ok_inner_of (T : Txt K w mg) : FnG P w K mg base 1 T.inner_of.a T.inner_of.fd ["row"] m_inner_of := by
  refine fnG_R T.inner_of.F sc_inner_of (fun cdv A lo s H E hr => ?_)
  exact (pzs_cons (pz_if (pb_cmp (od_eq hr) (pd_ix (pd_var 0) pd_int) (pd_const rfl T.c_IF)) (pzs_one (pz_ret (pd_cut (pd_var 0) (pp_some pd_int) pp_none))) pzs_nil)
    (pzs_cons (pz_if (pb_cmp (od_eq hr) (pd_ix (pd_var 0) pd_int) (pd_const rfl T.c_AGAIN)) (pzs_one (pz_ret (pd_cut (pd_var 0) (pp_some pd_int) pp_none))) pzs_nil)
    (pzs_one (pz_ret (pd_tup pas_nil)))))
theorem sc_rows_in : FnScope ["program", "row", "rows"] ["program"] (defScope s_rows_in) := ⟨rfl, rfl, rfl, by decide +kernel, rfl, by decide +kernel, by decide +kernel⟩
def b_rows_in (r_rows_in : List D → AH → Res D) : SM := (sRet (e2 (e1 (aCons (eVar 0) aNil) oLenA) (e1 (e1 (eLc2 (e1 (eVar 0) iVal) (gSet 1) bYes (e1 (e1 (aCons (eVar 1) aNil) m_inner_of) iVal) (gSet 2) bYes (e1 (aCons (eVar 2) aNil) r_rows_in) [1, 2] [2]) HA.listOf) sSum) oAdd))
def m_rows_in : Nat → List D → AH → Res D
  | 0 => fun _ _ => .stuck
  | n + 1 => fnR 3 1 (b_rows_in (m_rows_in n))
theorem ok_rows_in (T : Txt K w mg) : ∀ n : Nat, FnG P w K mg base (1 + n) T.rows_in.a T.rows_in.fd ["program"] (m_rows_in n)
  | 0 => fnG_stuck
  | n + 1 => by
    have R_rows_in := ok_rows_in T n
    have H_inner_of : FnG P w K mg base (1 + n) T.inner_of.a T.inner_of.fd ["row"] (m_inner_of) := (ok_inner_of T).mono (by omega)
    refine fnG_R T.rows_in.F sc_rows_in (fun cdv A lo s H E hr => ?_)
    exact (pzs_one (pz_ret (pd_op od_add (pd_callB cd_len rfl T.n_len (by decide +kernel) (pas_cons (pd_var 0) pas_nil)) (pg_callSB (cs_sum rfl) rfl T.n_sum (by decide +kernel) (pm_d (pd_lc2 rfl sc_rows_in.nd (pf_d (pd_var 0)) (blkOk_by (N := ["program", "row", "rows"]) (sc := defScope s_rows_in) (own := [("row", 1), ("rows", 2)]) (by decide +kernel)) rfl (by decide) (by decide) (by decide) (fun _ _ _ _ _ => (pt_name sc_rows_in.nd rfl (by first | exact Or.inl rfl | exact Or.inr rfl))) (fun _ _ _ _ _ => ptsd_nil) (fun _ _ _ _ _ => (pf_d (pd_call H_inner_of hr rfl T.inner_of.g T.inner_of.k T.inner_of.b HA.takes0 (pas_cons (pd_var 1) pas_nil) (many_cons many_nil)))) (fun _ _ _ _ _ => (pt_name sc_rows_in.nd rfl (by first | exact Or.inl rfl | exact Or.inr rfl))) (fun _ _ _ _ _ => ptsd_nil) (fun _ _ _ _ _ => (pd_call R_rows_in hr rfl T.rows_in.g T.rows_in.k T.rows_in.b HA.takes0 (pas_cons (pd_var 2) pas_nil) (many_cons many_nil)))))))))
theorem sc_is_number_below : FnScope ["thing", "most"] ["thing", "most"] (defScope s_is_number_below) := ⟨rfl, rfl, rfl, by decide +kernel, rfl, by decide +kernel, by decide +kernel⟩
def b_is_number_below : SM := (sRet (e1 (aCons (eVar 0) (aCons (eC (.int 0)) (aCons (e2 (eVar 1) (eC (.int 1)) oSub) aNil))) m_is_within))
def m_is_number_below : List D → AH → Res D := fnR 2 2 b_is_number_below
theorem ok_is_number_below (T : Txt K w mg) : FnG P w K mg base 3 T.is_number_below.a T.is_number_below.fd ["thing", "most"] m_is_number_below := by
  have H_is_within : FnG P w K mg base 2 T.is_within.a T.is_within.fd ["thing", "least", "most"] (m_is_within) := (ok_is_within T).mono (by omega)
  refine fnG_R T.is_number_below.F sc_is_number_below (fun cdv A lo s H E hr => ?_)
  exact (pzs_one (pz_ret (pd_call H_is_within hr rfl T.is_within.g T.is_within.k T.is_within.b (takes_f rfl rfl rfl rfl) (pas_cons (pd_var 0) (pas_cons pd_int (pas_cons (pd_op od_sub (pd_var 1) pd_int) pas_nil))) (many_cons (many_cons (many_cons many_nil))))))
theorem sc_rows_around : FnScope ["program", "path", "rows", "at", "inner", "number", "which"] ["program", "path"] (defScope s_rows_around) := ⟨rfl, rfl, rfl, by decide +kernel, rfl, by decide +kernel, by decide +kernel⟩
def b_rows_around : SM := (sSeq (sIf (bOr (bNot (e1 (e1 (aCons (eVar 1) (aCons (eC (.cst (.ty "tuple"))) aNil)) oIsi) truth)) (e2 (e2 (e1 (aCons (eVar 1) aNil) oLenA) (eC (.int 2)) oMod) (eC (.int 0)) cEq)) (sRet (eC (.non))) sSkip) (sSeq (sAsg (eVar 0) (gSet 2)) (sSeq (sFor (e3 (eC (.int 0)) (e2 (e1 (aCons (eVar 1) aNil) oLenA) (eC (.int 1)) oSub) (eC (.int 2)) iRange3) (gSet 3) (sSeq (sAsg (e3 (eVar 1) (oPart (some (eVar 3))) (oPart (some (e2 (eVar 3) (eC (.int 2)) oAdd))) oCut) (gTupD 2 (gConsD (gSet 5) (gConsD (gSet 6) gNilD)))) (sSeq (sIf (bNot (e1 (e1 (aCons (eVar 5) (aCons (e1 (aCons (eVar 2) aNil) oLenA) aNil)) m_is_number_below) truth)) (sRet (eC (.non))) sSkip) (sSeq (sAsg (e1 (aCons (e2 (eVar 2) (eVar 5) oIx) aNil) m_inner_of) (gSet 4)) (sSeq (sIf (bNot (e1 (e1 (aCons (eVar 6) (aCons (e1 (aCons (eVar 4) aNil) oLenA) aNil)) m_is_number_below) truth)) (sRet (eC (.non))) sSkip) (sAsg (e2 (eVar 4) (eVar 6) oIx) (gSet 2))))))) (sRet (eVar 2)))))
def m_rows_around : List D → AH → Res D := fnR 7 2 b_rows_around
theorem ok_rows_around (T : Txt K w mg) : FnG P w K mg base 4 T.rows_around.a T.rows_around.fd ["program", "path"] m_rows_around := by
  have H_is_number_below : FnG P w K mg base 3 T.is_number_below.a T.is_number_below.fd ["thing", "most"] (m_is_number_below) := (ok_is_number_below T).mono (by omega)
  have H_inner_of : FnG P w K mg base 3 T.inner_of.a T.inner_of.fd ["row"] (m_inner_of) := (ok_inner_of T).mono (by omega)
  refine fnG_R T.rows_around.F sc_rows_around (fun cdv A lo s H E hr => ?_)
  exact (pzs_cons (pz_if (pbw (pbw_or (pb_not (pb_val (pd_callB cd_isi rfl T.n_isinstance (by decide +kernel) (pas_cons (pd_var 1) (pas_cons (pd_ty rfl T.n_tuple (by decide +kernel)) pas_nil))))) (pbw_or1 (pb_cmp (od_eq hr) (pd_op od_mod (pd_callB cd_len rfl T.n_len (by decide +kernel) (pas_cons (pd_var 1) pas_nil)) pd_int) pd_int)))) (pzs_one (pz_ret pd_non)) pzs_nil)
    (pzs_cons (pz_set sc_rows_around.nd rfl (by first | exact Or.inl rfl | exact Or.inr rfl) (pd_var 0))
    (pzs_cons (pz_for (passes_of rfl) rfl (pf_range3 rfl T.n_range pd_int (pd_op od_sub (pd_callB cd_len rfl T.n_len (by decide +kernel) (pas_cons (pd_var 1) pas_nil)) pd_int) pd_int) (pt_name sc_rows_around.nd rfl (by first | exact Or.inl rfl | exact Or.inr rfl)) (pzs_cons (pz_asg (pd_cut (pd_var 1) (pp_some (pd_var 3)) (pp_some (pd_op od_add (pd_var 3) pd_int))) (pt_tup rfl (ptn_cons (pt_name sc_rows_around.nd rfl (by first | exact Or.inl rfl | exact Or.inr rfl)) (ptn_cons (pt_name sc_rows_around.nd rfl (by first | exact Or.inl rfl | exact Or.inr rfl)) ptn_nil))))
    (pzs_cons (pz_if (pb_not (pb_val (pd_call H_is_number_below hr rfl T.is_number_below.g T.is_number_below.k T.is_number_below.b (takes_f rfl rfl rfl rfl) (pas_cons (pd_var 5) (pas_cons (pd_callB cd_len rfl T.n_len (by decide +kernel) (pas_cons (pd_var 2) pas_nil)) pas_nil)) (many_cons (many_cons many_nil))))) (pzs_one (pz_ret pd_non)) pzs_nil)
    (pzs_cons (pz_set sc_rows_around.nd rfl (by first | exact Or.inl rfl | exact Or.inr rfl) (pd_call H_inner_of hr rfl T.inner_of.g T.inner_of.k T.inner_of.b (takes_f rfl rfl rfl rfl) (pas_cons (pd_ix (pd_var 2) (pd_var 5)) pas_nil) (many_cons many_nil)))
    (pzs_cons (pz_if (pb_not (pb_val (pd_call H_is_number_below hr rfl T.is_number_below.g T.is_number_below.k T.is_number_below.b (takes_f rfl rfl rfl rfl) (pas_cons (pd_var 6) (pas_cons (pd_callB cd_len rfl T.n_len (by decide +kernel) (pas_cons (pd_var 4) pas_nil)) pas_nil)) (many_cons (many_cons many_nil))))) (pzs_one (pz_ret pd_non)) pzs_nil)
    (pzs_one (pz_set sc_rows_around.nd rfl (by first | exact Or.inl rfl | exact Or.inr rfl) (pd_ix (pd_var 4) (pd_var 6)))))))))
    (pzs_one (pz_ret (pd_var 2))))))
theorem sc_row_at : FnScope ["program", "path", "rows"] ["program", "path"] (defScope s_row_at) := ⟨rfl, rfl, rfl, by decide +kernel, rfl, by decide +kernel, by decide +kernel⟩
def b_row_at : SM := (sSeq (sAsg (e1 (aCons (eVar 0) (aCons (eVar 1) aNil)) m_rows_around) (gSet 2)) (sSeq (sIf (bOr (e2 (eVar 2) (eC (.non)) cIs) (bNot (e1 (e1 (aCons (e2 (eVar 1) (e1 (eC (.int 1)) oNeg) oIx) (aCons (e1 (aCons (eVar 2) aNil) oLenA) aNil)) m_is_number_below) truth))) (sRet (eC (.non))) sSkip) (sRet (e2 (eVar 2) (e2 (eVar 1) (e1 (eC (.int 1)) oNeg) oIx) oIx))))
def m_row_at : List D → AH → Res D := fnR 3 2 b_row_at
theorem ok_row_at (T : Txt K w mg) : FnG P w K mg base 5 T.row_at.a T.row_at.fd ["program", "path"] m_row_at := by
  have H_rows_around : FnG P w K mg base 4 T.rows_around.a T.rows_around.fd ["program", "path"] (m_rows_around) := (ok_rows_around T).mono (by omega)
  have H_is_number_below : FnG P w K mg base 4 T.is_number_below.a T.is_number_below.fd ["thing", "most"] (m_is_number_below) := (ok_is_number_below T).mono (by omega)
  refine fnG_R T.row_at.F sc_row_at (fun cdv A lo s H E hr => ?_)
  exact (pzs_cons (pz_set sc_row_at.nd rfl (by first | exact Or.inl rfl | exact Or.inr rfl) (pd_call H_rows_around hr rfl T.rows_around.g T.rows_around.k T.rows_around.b (takes_f rfl rfl rfl rfl) (pas_cons (pd_var 0) (pas_cons (pd_var 1) pas_nil)) (many_cons (many_cons many_nil))))
    (pzs_cons (pz_if (pbw (pbw_or (pb_cmp od_is (pd_var 2) pd_non) (pbw_or1 (pb_not (pb_val (pd_call H_is_number_below hr rfl T.is_number_below.g T.is_number_below.k T.is_number_below.b (takes_f rfl rfl rfl rfl) (pas_cons (pd_ix (pd_var 1) (pd_neg pd_int)) (pas_cons (pd_callB cd_len rfl T.n_len (by decide +kernel) (pas_cons (pd_var 2) pas_nil)) pas_nil)) (many_cons (many_cons many_nil)))))))) (pzs_one (pz_ret pd_non)) pzs_nil)
    (pzs_one (pz_ret (pd_ix (pd_var 2) (pd_ix (pd_var 1) (pd_neg pd_int)))))))
theorem sc__law_deck : FnScope ["_law_script", "_law_some", "_law_cell"] ["_law_script"] (defScope s__law_deck) := ⟨rfl, rfl, rfl, by decide +kernel, rfl, by decide +kernel, by decide +kernel⟩
def b__law_deck : SM := (sSeq (sAsg (eNew (e1 (e1 (e3 (eVar 0) (oPart none) (oPart (some (eC (.int 63)))) fun d lo hi ah => (HA.listOf d ah).bind fun ds ah => lCut ds lo hi ah) sList) lRevL)) (gSet 1)) (sRet (eNew (lLst (aCons (eVar 1) (aCons (e2 (e1 (lLc (e1 (eVar 1) iVal) (gSet 2) bYes (e2 (eVar 2) (eC (.int 2147483629)) oMod) [2]) sSum) (e2 (eC (.int 11)) (e1 (aCons (eVar 1) aNil) oLenA) oMul) oAdd) (aCons (eC (.int 0)) aNil)))))))
def m__law_deck : List D → AH → Res D := fnM 3 1 b__law_deck
theorem ok__law_deck (T : Txt K w mg) : FnG P w K mg base 1 T._law_deck.a T._law_deck.fd ["_law_script"] m__law_deck := by
  refine fnG T._law_deck.F sc__law_deck (fun cdv A lo s H E hr => ?_)
  exact (pzs_cons (pz_set sc__law_deck.nd rfl (by first | exact Or.inl rfl | exact Or.inr rfl) (pd_new (pl_revL (pm_l (pg_callST cs_list rfl T.n_list (by decide +kernel) (pq_l (pl_cut (pd_var 0) pp_none (pp_some pd_int))))))))
    (pzs_one (pz_ret (pd_new (pl_lst (pas_cons (pd_var 1) (pas_cons (pd_op od_add (pg_callSB (cs_sum rfl) rfl T.n_sum (by decide +kernel) (pm_l (pl_lcv rfl sc__law_deck.nd (pf_d (pd_var 1)) (blkOk_by (N := ["_law_script", "_law_some", "_law_cell"]) (sc := defScope s__law_deck) (own := [("_law_cell", 2)]) (by decide +kernel)) rfl (by decide) (fun _ _ _ _ _ => (pt_name sc__law_deck.nd rfl (by first | exact Or.inl rfl | exact Or.inr rfl))) (fun _ _ _ _ _ => ptsd_nil) (fun _ _ _ _ _ => (pd_op od_mod (pd_var 2) pd_int))))) (pd_op od_mul pd_int (pd_callB cd_len rfl T.n_len (by decide +kernel) (pas_cons (pd_var 1) pas_nil)))) (pas_cons pd_int pas_nil))))))))
theorem sc__law_draw : FnScope ["_law_deck_here", "_law_size", "_law_cell", "_law_number_here"] ["_law_deck_here", "_law_size"] (defScope s__law_draw) := ⟨rfl, rfl, rfl, by decide +kernel, rfl, by decide +kernel, by decide +kernel⟩
def b__law_draw : SM := (sSeq (sSetL (eVar 0) (eC (.int 2)) (e2 (e2 (eVar 0) (eC (.int 2)) oIx) (eC (.int 1)) oAdd)) (sSeq (sAsg (e2 (eVar 0) (eC (.int 1)) oIx) (gSet 2)) (sSeq (sIf (bNil true (e1 (e2 (eVar 0) (eC (.int 0)) oIx) HA.listOf)) (sSeq (sAsg (eMt (e2 (eVar 0) (eC (.int 0)) oIx) aNil mPop) (gSet 2)) (sIf (e2 (eVar 2) (e2 (eC (.int 10)) (eC (.int 18)) oPow) cGe) (sSeq (sExpr (eMt (e2 (eVar 0) (eC (.int 0)) oIx) (aCons (e2 (eVar 2) (eVar 1) oFdiv) aNil) mAppend)) (sRet (e2 (eVar 2) (eVar 1) oMod))) sSkip)) sSkip) (sSeq (sAsg (e2 (e2 (e2 (e2 (e2 (eVar 2) (eC (.int 2147483629)) oMod) (e2 (e2 (eC (.int 7919)) (e2 (eVar 0) (eC (.int 2)) oIx) oMul) (e2 (eVar 0) (eC (.int 2)) oIx) oMul) oAdd) (eC (.int 1)) oAdd) (eC (.int 48271)) oMul) (eC (.int 2147483647)) oMod) (gSet 3)) (sSeq (sAsg (e2 (e2 (e2 (e2 (eVar 3) (eVar 3) oMul) (e2 (eC (.int 69621)) (eVar 3) oMul) oAdd) (e2 (eVar 0) (eC (.int 2)) oIx) oAdd) (eC (.int 2147483587)) oMod) (gSet 3)) (sRet (e2 (e2 (e2 (e2 (eVar 3) (e2 (e2 (eVar 3) (eC (.int 5)) oFdiv) (eC (.int 39373)) oAdd) oMul) (eC (.int 2147483579)) oMod) (eC (.int 64)) oFdiv) (eVar 1) oMod)))))))
def m__law_draw : List D → AH → Res D := fnM 4 2 b__law_draw
theorem ok__law_draw (T : Txt K w mg) : FnG P w K mg base 1 T._law_draw.a T._law_draw.fd ["_law_deck_here", "_law_size"] m__law_draw := by
  refine fnG T._law_draw.F sc__law_draw (fun cdv A lo s H E hr => ?_)
  exact (pzs_cons (pz_setL (pd_var 0) pd_int (pd_op od_add (pd_ix (pd_var 0) pd_int) pd_int))
    (pzs_cons (pz_set sc__law_draw.nd rfl (by first | exact Or.inl rfl | exact Or.inr rfl) (pd_ix (pd_var 0) pd_int))
    (pzs_cons (pz_if (pb_notNil hr (pm_d (pd_ix (pd_var 0) pd_int))) (pzs_cons (pz_set sc__law_draw.nd rfl (by first | exact Or.inl rfl | exact Or.inr rfl) (pd_ml0 PySem.F.plainAttrs_list PySem.F.slot_list_pop PySem.F.type_list_pop md_pop (pd_ix (pd_var 0) pd_int)))
    (pzs_one (pz_if (pb_cmp od_ge (pd_var 2) (pd_op od_pow pd_int pd_int)) (pzs_cons (pz_expr (pd_ml PySem.F.plainAttrs_list PySem.F.slot_list_append PySem.F.type_list_append md_append (pd_ix (pd_var 0) pd_int) (pas_cons (pd_op od_fdiv (pd_var 2) (pd_var 1)) pas_nil)))
    (pzs_one (pz_ret (pd_op od_mod (pd_var 2) (pd_var 1))))) pzs_nil))) pzs_nil)
    (pzs_cons (pz_set sc__law_draw.nd rfl (by first | exact Or.inl rfl | exact Or.inr rfl) (pd_op od_mod (pd_op od_mul (pd_op od_add (pd_op od_add (pd_op od_mod (pd_var 2) pd_int) (pd_op od_mul (pd_op od_mul pd_int (pd_ix (pd_var 0) pd_int)) (pd_ix (pd_var 0) pd_int))) pd_int) pd_int) pd_int))
    (pzs_cons (pz_set sc__law_draw.nd rfl (by first | exact Or.inl rfl | exact Or.inr rfl) (pd_op od_mod (pd_op od_add (pd_op od_add (pd_op od_mul (pd_var 3) (pd_var 3)) (pd_op od_mul pd_int (pd_var 3))) (pd_ix (pd_var 0) pd_int)) pd_int))
    (pzs_one (pz_ret (pd_op od_mod (pd_op od_fdiv (pd_op od_mod (pd_op od_mul (pd_var 3) (pd_op od_add (pd_op od_fdiv (pd_var 3) pd_int) pd_int)) pd_int) pd_int) (pd_var 1)))))))))
theorem sc__law_pick : FnScope ["_law_deck_here", "_law_some"] ["_law_deck_here", "_law_some"] (defScope s__law_pick) := ⟨rfl, rfl, rfl, by decide +kernel, rfl, by decide +kernel, by decide +kernel⟩
def b__law_pick : SM := (sRet (e2 (eVar 1) (e1 (aCons (eVar 0) (aCons (e1 (aCons (eVar 1) aNil) oLenA) aNil)) m__law_draw) oIx))
def m__law_pick : List D → AH → Res D := fnR 2 2 b__law_pick
theorem ok__law_pick (T : Txt K w mg) : FnG P w K mg base 2 T._law_pick.a T._law_pick.fd ["_law_deck_here", "_law_some"] m__law_pick := by
  have H__law_draw : FnG P w K mg base 1 T._law_draw.a T._law_draw.fd ["_law_deck_here", "_law_size"] (m__law_draw) := (ok__law_draw T).mono (by omega)
  refine fnG_R T._law_pick.F sc__law_pick (fun cdv A lo s H E hr => ?_)
  exact (pzs_one (pz_ret (pd_ix (pd_var 1) (pd_call H__law_draw hr rfl T._law_draw.g T._law_draw.k T._law_draw.b (takes_f rfl rfl rfl rfl) (pas_cons (pd_var 0) (pas_cons (pd_callB cd_len rfl T.n_len (by decide +kernel) (pas_cons (pd_var 1) pas_nil)) pas_nil)) (many_cons (many_cons many_nil))))))
theorem sc__law_number : FnScope ["_law_deck_here"] ["_law_deck_here"] (defScope s__law_number) := ⟨rfl, rfl, rfl, by decide +kernel, rfl, by decide +kernel, by decide +kernel⟩
def b__law_number : SM := (sRet (e2 (lLst (aCons (eC (.int 0)) (aCons (eC (.int 1)) (aCons (e1 (aCons (eVar 0) (aCons (eC (.int 12)) aNil)) m__law_draw) (aCons (e2 (eC (.int 999)) (e1 (aCons (eVar 0) (aCons (eC (.int 2)) aNil)) m__law_draw) oSub) (aCons (e1 (aCons (eVar 0) (aCons (eC (.int 1000)) aNil)) m__law_draw) aNil)))))) (e1 (aCons (eVar 0) (aCons (eC (.int 5)) aNil)) m__law_draw) lIx))
def m__law_number : List D → AH → Res D := fnR 1 1 b__law_number
theorem ok__law_number (T : Txt K w mg) : FnG P w K mg base 2 T._law_number.a T._law_number.fd ["_law_deck_here"] m__law_number := by
  have H__law_draw : FnG P w K mg base 1 T._law_draw.a T._law_draw.fd ["_law_deck_here", "_law_size"] (m__law_draw) := (ok__law_draw T).mono (by omega)
  refine fnG_R T._law_number.F sc__law_number (fun cdv A lo s H E hr => ?_)
  exact (pzs_one (pz_ret (pd_ixL (pl_lst (pas_cons pd_int (pas_cons pd_int (pas_cons (pd_call H__law_draw hr rfl T._law_draw.g T._law_draw.k T._law_draw.b (takes_f rfl rfl rfl rfl) (pas_cons (pd_var 0) (pas_cons pd_int pas_nil)) (many_cons (many_cons many_nil))) (pas_cons (pd_op od_sub pd_int (pd_call H__law_draw hr rfl T._law_draw.g T._law_draw.k T._law_draw.b (takes_f rfl rfl rfl rfl) (pas_cons (pd_var 0) (pas_cons pd_int pas_nil)) (many_cons (many_cons many_nil)))) (pas_cons (pd_call H__law_draw hr rfl T._law_draw.g T._law_draw.k T._law_draw.b (takes_f rfl rfl rfl rfl) (pas_cons (pd_var 0) (pas_cons pd_int pas_nil)) (many_cons (many_cons many_nil))) pas_nil)))))) (pd_call H__law_draw hr rfl T._law_draw.g T._law_draw.k T._law_draw.b (takes_f rfl rfl rfl rfl) (pas_cons (pd_var 0) (pas_cons pd_int pas_nil)) (many_cons (many_cons many_nil))))))
theorem sc__law_operand : FnScope ["_law_deck_here"] ["_law_deck_here"] (defScope s__law_operand) := ⟨rfl, rfl, rfl, by decide +kernel, rfl, by decide +kernel, by decide +kernel⟩
def b__law_operand : SM := (sRet (e2 (lLst (aCons (e1 (aCons (eVar 0) aNil) m__law_number) (aCons (e1 (aCons (eVar 0) (aCons (eC (.str "abcdefgh")) aNil)) m__law_pick) (aCons (e1 (aCons (eVar 0) (aCons (eC (.str "abcdefgh")) aNil)) m__law_pick) aNil)))) (e1 (aCons (eVar 0) (aCons (eC (.int 3)) aNil)) m__law_draw) lIx))
def m__law_operand : List D → AH → Res D := fnR 1 1 b__law_operand
theorem ok__law_operand (T : Txt K w mg) : FnG P w K mg base 3 T._law_operand.a T._law_operand.fd ["_law_deck_here"] m__law_operand := by
  have H__law_draw : FnG P w K mg base 2 T._law_draw.a T._law_draw.fd ["_law_deck_here", "_law_size"] (m__law_draw) := (ok__law_draw T).mono (by omega)
  have H__law_pick : FnG P w K mg base 2 T._law_pick.a T._law_pick.fd ["_law_deck_here", "_law_some"] (m__law_pick) := (ok__law_pick T).mono (by omega)
  have H__law_number : FnG P w K mg base 2 T._law_number.a T._law_number.fd ["_law_deck_here"] (m__law_number) := (ok__law_number T).mono (by omega)
  refine fnG_R T._law_operand.F sc__law_operand (fun cdv A lo s H E hr => ?_)
  exact (pzs_one (pz_ret (pd_ixL (pl_lst (pas_cons (pd_call H__law_number hr rfl T._law_number.g T._law_number.k T._law_number.b (takes_f rfl rfl rfl rfl) (pas_cons (pd_var 0) pas_nil) (many_cons many_nil)) (pas_cons (pd_call H__law_pick hr rfl T._law_pick.g T._law_pick.k T._law_pick.b (takes_f rfl rfl rfl rfl) (pas_cons (pd_var 0) (pas_cons pd_str pas_nil)) (many_cons (many_cons many_nil))) (pas_cons (pd_call H__law_pick hr rfl T._law_pick.g T._law_pick.k T._law_pick.b (takes_f rfl rfl rfl rfl) (pas_cons (pd_var 0) (pas_cons pd_str pas_nil)) (many_cons (many_cons many_nil))) pas_nil)))) (pd_call H__law_draw hr rfl T._law_draw.g T._law_draw.k T._law_draw.b (takes_f rfl rfl rfl rfl) (pas_cons (pd_var 0) (pas_cons pd_int pas_nil)) (many_cons (many_cons many_nil))))))
theorem sc__law_straight : FnScope ["_law_deck_here", "_law_word", "_law_r", "_law_x", "_law_y"] ["_law_deck_here"] (defScope s__law_straight) := ⟨rfl, rfl, rfl, by decide +kernel, rfl, by decide +kernel, by decide +kernel⟩
def b__law_straight : SM := (sSeq (sAsg (e1 (aCons (eVar 0) (aCons (eMs (eC (.str "let sum less tell room free move back read put same under show guess")) (aCons (eC (.str " ")) aNil) mSplit) aNil)) m__law_pick) (gSet 1)) (sSeq (sPar3 2 3 4 (aCons (e1 (aCons (eVar 0) (aCons (eC (.str "abcdefgh")) aNil)) m__law_pick) (aCons (e1 (aCons (eVar 0) aNil) m__law_operand) (aCons (e1 (aCons (eVar 0) aNil) m__law_operand) aNil)))) (sSeq (sIf (e2 (eVar 1) (eC (.str "room")) cEq) (sRet (eTup (aCons (eC (.str "room")) (aCons (eVar 2) (aCons (e2 (eC (.int 1)) (e1 (aCons (eVar 0) (aCons (eC (.int 8)) aNil)) m__law_draw) oAdd) aNil))))) sSkip) (sSeq (sIf (e2 (eVar 1) (eTup (aCons (eC (.str "tell")) (aCons (eC (.str "free")) aNil))) cIn) (sRet (eTup (aCons (eVar 1) (aCons (eVar 3) aNil)))) sSkip) (sSeq (sIf (e2 (eVar 1) (eC (.str "put")) cEq) (sRet (eTup (aCons (eVar 1) (aCons (eVar 3) (aCons (eVar 4) aNil))))) sSkip) (sSeq (sIf (e2 (eVar 1) (eTup (aCons (eC (.str "let")) (aCons (eC (.str "read")) (aCons (eC (.str "show")) (aCons (eC (.str "guess")) aNil))))) cIn) (sRet (eTup (aCons (eVar 1) (aCons (eVar 2) (aCons (eVar 3) aNil))))) sSkip) (sRet (eTup (aCons (eVar 1) (aCons (eVar 2) (aCons (eVar 3) (aCons (eVar 4) aNil))))))))))))
def m__law_straight : List D → AH → Res D := fnR 5 1 b__law_straight
theorem ok__law_straight (T : Txt K w mg) : FnG P w K mg base 4 T._law_straight.a T._law_straight.fd ["_law_deck_here"] m__law_straight := by
  have H__law_pick : FnG P w K mg base 3 T._law_pick.a T._law_pick.fd ["_law_deck_here", "_law_some"] (m__law_pick) := (ok__law_pick T).mono (by omega)
  have H__law_operand : FnG P w K mg base 3 T._law_operand.a T._law_operand.fd ["_law_deck_here"] (m__law_operand) := (ok__law_operand T).mono (by omega)
  have H__law_draw : FnG P w K mg base 3 T._law_draw.a T._law_draw.fd ["_law_deck_here", "_law_size"] (m__law_draw) := (ok__law_draw T).mono (by omega)
  refine fnG_R T._law_straight.F sc__law_straight (fun cdv A lo s H E hr => ?_)
  exact (pzs_cons (pz_set sc__law_straight.nd rfl (by first | exact Or.inl rfl | exact Or.inr rfl) (pd_call H__law_pick hr rfl T._law_pick.g T._law_pick.k T._law_pick.b (takes_f rfl rfl rfl rfl) (pas_cons (pd_var 0) (pas_cons (pd_ms PySem.F.plainAttrs_str PySem.F.slot_str_split PySem.F.type_str_split md_split pd_str (pas_cons pd_str pas_nil)) pas_nil)) (many_cons (many_cons many_nil))))
    (pzs_cons (pz_par3W rfl sc__law_straight.nd rfl rfl rfl (by decide) (by decide) (by decide) rfl rfl rfl (pas_cons (pd_call H__law_pick hr rfl T._law_pick.g T._law_pick.k T._law_pick.b (takes_f rfl rfl rfl rfl) (pas_cons (pd_var 0) (pas_cons pd_str pas_nil)) (many_cons (many_cons many_nil))) (pas_cons (pd_call H__law_operand hr rfl T._law_operand.g T._law_operand.k T._law_operand.b (takes_f rfl rfl rfl rfl) (pas_cons (pd_var 0) pas_nil) (many_cons many_nil)) (pas_cons (pd_call H__law_operand hr rfl T._law_operand.g T._law_operand.k T._law_operand.b (takes_f rfl rfl rfl rfl) (pas_cons (pd_var 0) pas_nil) (many_cons many_nil)) pas_nil))) rfl (by decide +kernel) (by decide +kernel) (by decide +kernel) (by decide +kernel) (by decide +kernel) (by decide +kernel))
    (pzs_cons (pz_if (pb_cmp (od_eq hr) (pd_var 1) pd_str) (pzs_one (pz_ret (pd_tup (pas_cons pd_str (pas_cons (pd_var 2) (pas_cons (pd_op od_add pd_int (pd_call H__law_draw hr rfl T._law_draw.g T._law_draw.k T._law_draw.b (takes_f rfl rfl rfl rfl) (pas_cons (pd_var 0) (pas_cons pd_int pas_nil)) (many_cons (many_cons many_nil)))) pas_nil)))))) pzs_nil)
    (pzs_cons (pz_if (pb_cmp (od_in hr) (pd_var 1) (pd_tup (pas_cons pd_str (pas_cons pd_str pas_nil)))) (pzs_one (pz_ret (pd_tup (pas_cons (pd_var 1) (pas_cons (pd_var 3) pas_nil))))) pzs_nil)
    (pzs_cons (pz_if (pb_cmp (od_eq hr) (pd_var 1) pd_str) (pzs_one (pz_ret (pd_tup (pas_cons (pd_var 1) (pas_cons (pd_var 3) (pas_cons (pd_var 4) pas_nil)))))) pzs_nil)
    (pzs_cons (pz_if (pb_cmp (od_in hr) (pd_var 1) (pd_tup (pas_cons pd_str (pas_cons pd_str (pas_cons pd_str (pas_cons pd_str pas_nil)))))) (pzs_one (pz_ret (pd_tup (pas_cons (pd_var 1) (pas_cons (pd_var 2) (pas_cons (pd_var 3) pas_nil)))))) pzs_nil)
    (pzs_one (pz_ret (pd_tup (pas_cons (pd_var 1) (pas_cons (pd_var 2) (pas_cons (pd_var 3) (pas_cons (pd_var 4) pas_nil)))))))))))))
theorem sc__law_row : FnScope ["_law_deck_here", "_law_deep", "_law_left", "_law_way"] ["_law_deck_here", "_law_deep", "_law_left"] (defScope s__law_row) := ⟨rfl, rfl, rfl, by decide +kernel, rfl, by decide +kernel, by decide +kernel⟩
theorem sc__law_rows : FnScope ["_law_deck_here", "_law_deep", "_law_left", "_law_fewest", "_law_found", "_law_k"] ["_law_deck_here", "_law_deep", "_law_left", "_law_fewest"] (defScope s__law_rows) := ⟨rfl, rfl, rfl, by decide +kernel, rfl, by decide +kernel, by decide +kernel⟩
def b__law_row (r__law_row : List D → AH → Res D) (r__law_rows : List D → AH → Res D) : SM := (sSeq (sAsg (e1 (aCons (eVar 0) (aCons (eC (.int 6)) aNil)) m__law_draw) (gSet 3)) (sSeq (sSetL (eVar 2) (eC (.int 0)) (e2 (e2 (eVar 2) (eC (.int 0)) oIx) (eC (.int 1)) oSub)) (sSeq (sIf (bOr (e2 (eVar 3) (eC (.int 4)) cLt) (e2 (eVar 1) (eC (.int 0)) cEq)) (sRet (e1 (aCons (eVar 0) aNil) m__law_straight)) sSkip) (sSeq (sIf (e2 (eVar 3) (eC (.int 4)) cEq) (sRet (eTup (aCons (eC (.str "again")) (aCons (e1 (aCons (eVar 0) (aCons (eC (.int 6)) aNil)) m__law_draw) (aCons (e1 (aCons (eVar 0) (aCons (e2 (eVar 1) (eC (.int 1)) oSub) (aCons (eVar 2) (aCons (eC (.int 0)) aNil)))) r__law_rows) aNil))))) sSkip) (sRet (eTup (aCons (eC (.str "if")) (aCons (e1 (aCons (eVar 0) aNil) m__law_operand) (aCons (e1 (aCons (eVar 0) (aCons (e2 (eVar 1) (eC (.int 1)) oSub) (aCons (eVar 2) (aCons (eC (.int 0)) aNil)))) r__law_rows) (aCons (e1 (aCons (eVar 0) (aCons (e2 (eVar 1) (eC (.int 1)) oSub) (aCons (eVar 2) (aCons (eC (.int 0)) aNil)))) r__law_rows) aNil))))))))))
def b__law_rows (r__law_row : List D → AH → Res D) (r__law_rows : List D → AH → Res D) : SM := (sSeq (sAsg (eNew (lLst aNil)) (gSet 4)) (sSeq (sFor (e1 (e2 (eVar 3) (e1 (aCons (eVar 0) (aCons (eC (.int 4)) aNil)) m__law_draw) oAdd) iRange1) (gSet 5) (sIf (e2 (e2 (eVar 2) (eC (.int 0)) oIx) (eC (.int 0)) cGt) (sExpr (eMt (eVar 4) (aCons (e1 (aCons (eVar 0) (aCons (eVar 1) (aCons (eVar 2) aNil))) r__law_row) aNil) mAppend)) sSkip)) (sRet (e1 (e1 (eVar 4) seqOf) sTup))))
mutual
def m__law_row : Nat → List D → AH → Res D
  | 0 => fun _ _ => .stuck
  | n + 1 => fnR 4 3 (b__law_row (m__law_row n) (m__law_rows n))
def m__law_rows : Nat → List D → AH → Res D
  | 0 => fun _ _ => .stuck
  | n + 1 => fnR 6 4 (b__law_rows (m__law_row n) (m__law_rows n))
end
mutual
theorem ok__law_row (T : Txt K w mg) : ∀ n : Nat, FnG P w K mg base (4 + n) T._law_row.a T._law_row.fd ["_law_deck_here", "_law_deep", "_law_left"] (m__law_row n)
  | 0 => fnG_stuck
  | n + 1 => by
    have R__law_row := ok__law_row T n
    have R__law_rows := ok__law_rows T n
    have H__law_draw : FnG P w K mg base (4 + n) T._law_draw.a T._law_draw.fd ["_law_deck_here", "_law_size"] (m__law_draw) := (ok__law_draw T).mono (by omega)
    have H__law_straight : FnG P w K mg base (4 + n) T._law_straight.a T._law_straight.fd ["_law_deck_here"] (m__law_straight) := (ok__law_straight T).mono (by omega)
    have H__law_operand : FnG P w K mg base (4 + n) T._law_operand.a T._law_operand.fd ["_law_deck_here"] (m__law_operand) := (ok__law_operand T).mono (by omega)
    refine fnG_R T._law_row.F sc__law_row (fun cdv A lo s H E hr => ?_)
    exact (pzs_cons (pz_set sc__law_row.nd rfl (by first | exact Or.inl rfl | exact Or.inr rfl) (pd_call H__law_draw hr rfl T._law_draw.g T._law_draw.k T._law_draw.b (takes_f rfl rfl rfl rfl) (pas_cons (pd_var 0) (pas_cons pd_int pas_nil)) (many_cons (many_cons many_nil))))
    (pzs_cons (pz_setL (pd_var 2) pd_int (pd_op od_sub (pd_ix (pd_var 2) pd_int) pd_int))
    (pzs_cons (pz_if (pbw (pbw_or (pb_cmp od_lt (pd_var 3) pd_int) (pbw_or1 (pb_cmp (od_eq hr) (pd_var 1) pd_int)))) (pzs_one (pz_ret (pd_call H__law_straight hr rfl T._law_straight.g T._law_straight.k T._law_straight.b (takes_f rfl rfl rfl rfl) (pas_cons (pd_var 0) pas_nil) (many_cons many_nil)))) pzs_nil)
    (pzs_cons (pz_if (pb_cmp (od_eq hr) (pd_var 3) pd_int) (pzs_one (pz_ret (pd_tup (pas_cons pd_str (pas_cons (pd_call H__law_draw hr rfl T._law_draw.g T._law_draw.k T._law_draw.b (takes_f rfl rfl rfl rfl) (pas_cons (pd_var 0) (pas_cons pd_int pas_nil)) (many_cons (many_cons many_nil))) (pas_cons (pd_call R__law_rows hr rfl T._law_rows.g T._law_rows.k T._law_rows.b (takes_f rfl rfl rfl rfl) (pas_cons (pd_var 0) (pas_cons (pd_op od_sub (pd_var 1) pd_int) (pas_cons (pd_var 2) (pas_cons pd_int pas_nil)))) (many_cons (many_cons (many_cons (many_cons many_nil))))) pas_nil)))))) pzs_nil)
    (pzs_one (pz_ret (pd_tup (pas_cons pd_str (pas_cons (pd_call H__law_operand hr rfl T._law_operand.g T._law_operand.k T._law_operand.b (takes_f rfl rfl rfl rfl) (pas_cons (pd_var 0) pas_nil) (many_cons many_nil)) (pas_cons (pd_call R__law_rows hr rfl T._law_rows.g T._law_rows.k T._law_rows.b (takes_f rfl rfl rfl rfl) (pas_cons (pd_var 0) (pas_cons (pd_op od_sub (pd_var 1) pd_int) (pas_cons (pd_var 2) (pas_cons pd_int pas_nil)))) (many_cons (many_cons (many_cons (many_cons many_nil))))) (pas_cons (pd_call R__law_rows hr rfl T._law_rows.g T._law_rows.k T._law_rows.b (takes_f rfl rfl rfl rfl) (pas_cons (pd_var 0) (pas_cons (pd_op od_sub (pd_var 1) pd_int) (pas_cons (pd_var 2) (pas_cons pd_int pas_nil)))) (many_cons (many_cons (many_cons (many_cons many_nil))))) pas_nil)))))))))))
theorem ok__law_rows (T : Txt K w mg) : ∀ n : Nat, FnG P w K mg base (4 + n) T._law_rows.a T._law_rows.fd ["_law_deck_here", "_law_deep", "_law_left", "_law_fewest"] (m__law_rows n)
  | 0 => fnG_stuck
  | n + 1 => by
    have R__law_row := ok__law_row T n
    have R__law_rows := ok__law_rows T n
    have H__law_draw : FnG P w K mg base (4 + n) T._law_draw.a T._law_draw.fd ["_law_deck_here", "_law_size"] (m__law_draw) := (ok__law_draw T).mono (by omega)
    refine fnG_R T._law_rows.F sc__law_rows (fun cdv A lo s H E hr => ?_)
    exact (pzs_cons (pz_set sc__law_rows.nd rfl (by first | exact Or.inl rfl | exact Or.inr rfl) (pd_new (pl_lst pas_nil)))
    (pzs_cons (pz_for (passes_of rfl) rfl (pf_range1 rfl T.n_range (pd_op od_add (pd_var 3) (pd_call H__law_draw hr rfl T._law_draw.g T._law_draw.k T._law_draw.b (takes_f rfl rfl rfl rfl) (pas_cons (pd_var 0) (pas_cons pd_int pas_nil)) (many_cons (many_cons many_nil))))) (pt_name sc__law_rows.nd rfl (by first | exact Or.inl rfl | exact Or.inr rfl)) (pzs_one (pz_if (pb_cmp od_gt (pd_ix (pd_var 2) pd_int) pd_int) (pzs_one (pz_expr (pd_ml PySem.F.plainAttrs_list PySem.F.slot_list_append PySem.F.type_list_append md_append (pd_var 4) (pas_cons (pd_call R__law_row hr rfl T._law_row.g T._law_row.k T._law_row.b (takes_f rfl rfl rfl rfl) (pas_cons (pd_var 0) (pas_cons (pd_var 1) (pas_cons (pd_var 2) pas_nil))) (many_cons (many_cons (many_cons many_nil)))) pas_nil)))) pzs_nil)))
    (pzs_one (pz_ret (pg_callST cs_tuple rfl T.n_tuple (by decide +kernel) (pq_d (pd_var 4)))))))
end
theorem sc__law_program : FnScope ["_law_deck_here", "_law_great"] ["_law_deck_here"] (defScope s__law_program) := ⟨rfl, rfl, rfl, by decide +kernel, rfl, by decide +kernel, by decide +kernel⟩
def b__law_program : SM := (sSeq (sAsg (eB (e2 (e1 (aCons (eVar 0) (aCons (eC (.int 8)) aNil)) m__law_draw) (eC (.int 5)) cEq)) (gSet 1)) (sRet (e1 (aCons (eVar 0) (aCons (eC (.int 3)) (aCons (eNew (lLst (aCons (e2 (lLst (aCons (eC (.int 20)) (aCons (eC (.int 60)) aNil))) (e1 (aCons (eVar 1) aNil) oInt) lIx) aNil))) (aCons (e2 (lLst (aCons (e1 (aCons (eVar 0) (aCons (eC (.int 4)) aNil)) m__law_draw) (aCons (eC (.int 30)) aNil))) (e1 (aCons (eVar 1) aNil) oInt) lIx) aNil)))) (m__law_rows 20))))
def m__law_program : List D → AH → Res D := fnR 2 1 b__law_program
theorem ok__law_program (T : Txt K w mg) : FnG P w K mg base 25 T._law_program.a T._law_program.fd ["_law_deck_here"] m__law_program := by
  have H__law_draw : FnG P w K mg base 24 T._law_draw.a T._law_draw.fd ["_law_deck_here", "_law_size"] (m__law_draw) := (ok__law_draw T).mono (by omega)
  have H__law_rows : FnG P w K mg base 24 T._law_rows.a T._law_rows.fd ["_law_deck_here", "_law_deep", "_law_left", "_law_fewest"] (m__law_rows 20) := (ok__law_rows T 20).mono (by omega)
  refine fnG_R T._law_program.F sc__law_program (fun cdv A lo s H E hr => ?_)
  exact (pzs_cons (pz_set sc__law_program.nd rfl (by first | exact Or.inl rfl | exact Or.inr rfl) (pd_cmp (od_eq hr) (pd_call H__law_draw hr rfl T._law_draw.g T._law_draw.k T._law_draw.b (takes_f rfl rfl rfl rfl) (pas_cons (pd_var 0) (pas_cons pd_int pas_nil)) (many_cons (many_cons many_nil))) pd_int))
    (pzs_one (pz_ret (pd_call H__law_rows hr rfl T._law_rows.g T._law_rows.k T._law_rows.b (takes_f rfl rfl rfl rfl) (pas_cons (pd_var 0) (pas_cons pd_int (pas_cons (pd_new (pl_lst (pas_cons (pd_ixL (pl_lst (pas_cons pd_int (pas_cons pd_int pas_nil))) (pd_callT cd_int rfl T.n_int (by decide +kernel) (pas_cons (pd_var 1) pas_nil))) pas_nil))) (pas_cons (pd_ixL (pl_lst (pas_cons (pd_call H__law_draw hr rfl T._law_draw.g T._law_draw.k T._law_draw.b (takes_f rfl rfl rfl rfl) (pas_cons (pd_var 0) (pas_cons pd_int pas_nil)) (many_cons (many_cons many_nil))) (pas_cons pd_int pas_nil))) (pd_callT cd_int rfl T.n_int (by decide +kernel) (pas_cons (pd_var 1) pas_nil))) pas_nil)))) (many_cons (many_cons (many_cons (many_cons many_nil))))))))
theorem sc__law_paths : FnScope ["_law_rows_here", "_law_found", "_law_number_here", "_law_row_here", "_law_which", "_law_inner", "_law_path", "_law_there"] ["_law_rows_here"] (defScope s__law_paths) := ⟨rfl, rfl, rfl, by decide +kernel, rfl, by decide +kernel, by decide +kernel⟩
def b__law_paths (r__law_paths : List D → AH → Res D) : SM := (sSeq (sAsg (eNew (lLst aNil)) (gSet 1)) (sSeq (sFor (e1 (eVar 0) iEnumD) (gTupD 2 (gConsD (gSet 2) (gConsD (gSet 3) gNilD))) (sSeq (sExpr (eMt (eVar 1) (aCons (eTup (aCons (eTup (aCons (eVar 2) aNil)) (aCons (eVar 3) aNil))) aNil) mAppend)) (sFor (e1 (eIf (e2 (e2 (eVar 3) (eC (.int 0)) oIx) (eTup (aCons (eC (.str "if")) (aCons (eC (.str "again")) aNil))) cIn) (e3 (eVar 3) (oPart (some (eC (.int 2)))) (oPart none) oCut) (eTup aNil)) iEnumD) (gTupD 2 (gConsD (gSet 4) (gConsD (gSet 5) gNilD))) (sExpr (eMt (eVar 1) (aCons (eNew (lLc (e1 (e1 (aCons (eVar 5) aNil) r__law_paths) iVal) (gTupD 2 (gConsD (gSet 6) (gConsD (gSet 7) gNilD))) bYes (eTup (aCons (e2 (eTup (aCons (eVar 2) (aCons (eVar 4) aNil))) (eVar 6) oAdd) (aCons (eVar 7) aNil))) [6, 7])) aNil) mExtend))))) (sRet (eVar 1))))
def m__law_paths : Nat → List D → AH → Res D
  | 0 => fun _ _ => .stuck
  | n + 1 => fnR 8 1 (b__law_paths (m__law_paths n))
theorem ok__law_paths (T : Txt K w mg) : ∀ n : Nat, FnG P w K mg base (0 + n) T._law_paths.a T._law_paths.fd ["_law_rows_here"] (m__law_paths n)
  | 0 => fnG_stuck
  | n + 1 => by
    have R__law_paths := ok__law_paths T n
    refine fnG_R T._law_paths.F sc__law_paths (fun cdv A lo s H E hr => ?_)
    exact (pzs_cons (pz_set sc__law_paths.nd rfl (by first | exact Or.inl rfl | exact Or.inr rfl) (pd_new (pl_lst pas_nil)))
    (pzs_cons (pz_for (passes_of rfl) rfl (pf_enum rfl T.n_enumerate (pd_var 0)) (pt_tup rfl (ptn_cons (pt_name sc__law_paths.nd rfl (by first | exact Or.inl rfl | exact Or.inr rfl)) (ptn_cons (pt_name sc__law_paths.nd rfl (by first | exact Or.inl rfl | exact Or.inr rfl)) ptn_nil))) (pzs_cons (pz_expr (pd_ml PySem.F.plainAttrs_list PySem.F.slot_list_append PySem.F.type_list_append md_append (pd_var 1) (pas_cons (pd_tup (pas_cons (pd_tup (pas_cons (pd_var 2) pas_nil)) (pas_cons (pd_var 3) pas_nil))) pas_nil)))
    (pzs_one (pz_for (passes_of rfl) rfl (pf_enum rfl T.n_enumerate (pd_if (pb_cmp (od_in hr) (pd_ix (pd_var 3) pd_int) (pd_tup (pas_cons pd_str (pas_cons pd_str pas_nil)))) (pd_cut (pd_var 3) (pp_some pd_int) pp_none) (pd_tup pas_nil))) (pt_tup rfl (ptn_cons (pt_name sc__law_paths.nd rfl (by first | exact Or.inl rfl | exact Or.inr rfl)) (ptn_cons (pt_name sc__law_paths.nd rfl (by first | exact Or.inl rfl | exact Or.inr rfl)) ptn_nil))) (pzs_one (pz_expr (pd_ml PySem.F.plainAttrs_list PySem.F.slot_list_extend PySem.F.type_list_extend md_extend (pd_var 1) (pas_cons (pd_new (pl_lcv rfl sc__law_paths.nd (pf_d (pd_call R__law_paths hr rfl T._law_paths.g T._law_paths.k T._law_paths.b (takes_f rfl rfl rfl rfl) (pas_cons (pd_var 5) pas_nil) (many_cons many_nil))) (blkOk_by (N := ["_law_rows_here", "_law_found", "_law_number_here", "_law_row_here", "_law_which", "_law_inner", "_law_path", "_law_there"]) (sc := defScope s__law_paths) (own := [("_law_path", 6), ("_law_there", 7)]) (by decide +kernel)) rfl (by decide) (fun _ _ _ _ _ => (pt_tup rfl (ptn_cons (pt_name sc__law_paths.nd rfl (by first | exact Or.inl rfl | exact Or.inr rfl)) (ptn_cons (pt_name sc__law_paths.nd rfl (by first | exact Or.inl rfl | exact Or.inr rfl)) ptn_nil)))) (fun _ _ _ _ _ => ptsd_nil) (fun _ _ _ _ _ => (pd_tup (pas_cons (pd_op od_add (pd_tup (pas_cons (pd_var 2) (pas_cons (pd_var 4) pas_nil))) (pd_var 6)) (pas_cons (pd_var 7) pas_nil)))))) pas_nil))))))))
    (pzs_one (pz_ret (pd_var 1)))))
theorem sc__law_others : FnScope ["_law_deck_here", "_law_path", "_law_at", "_law_here", "_law_odd", "_law_found", "_law_one"] ["_law_deck_here", "_law_path"] (defScope s__law_others) := ⟨rfl, rfl, rfl, by decide +kernel, rfl, by decide +kernel, by decide +kernel⟩
def b__law_others : SM := (sSeq (sAsg (e1 (aCons (eVar 0) (aCons (e1 (aCons (eVar 1) aNil) oLenA) aNil)) m__law_draw) (gSet 2)) (sSeq (sAsg (e2 (eVar 1) (eVar 2) oIx) (gSet 3)) (sSeq (sAsg (eNew (lLst (aCons (e2 (eVar 3) (eC (.int 1)) oAdd) (aCons (e2 (eVar 3) (eC (.int 1)) oSub) (aCons (e1 (eC (.int 1)) oNeg) (aCons (e2 (eC (.int 0)) (eVar 3) oSub) (aCons (e2 (eVar 3) (eC (.int 60)) oAdd) (aCons (e2 (eC (.int 10)) (eC (.int 39)) oPow) (aCons (eB (e2 (eVar 3) (eC (.int 1)) cEq)) (aCons (eB (e2 (eVar 3) (eC (.int 0)) cEq)) (aCons (e1 (aCons (eVar 3) aNil) oStr) (aCons (eC (.non)) (aCons (eTup (aCons (eVar 3) aNil)) aNil))))))))))))) (gSet 4)) (sSeq (sAsg (eNew (lLc (iNew (e2 (tOur (eVar 4)) (tNew (lLst (aCons (eC (.int 2)) (aCons (eC (.int 1)) (aCons (eC (.int 0)) aNil))))) lCat)) (gSet 6) bYes (e2 (e2 (e3 (eVar 1) (oPart none) (oPart (some (eVar 2))) oCut) (eTup (aCons (eVar 6) aNil)) oAdd) (e3 (eVar 1) (oPart (some (e2 (eVar 2) (eC (.int 1)) oAdd))) (oPart none) oCut) oAdd) [6])) (gSet 5)) (sSeq (sAsg (eNew (e2 (tOur (eVar 5)) (tNew (lLst (aCons (e2 (e3 (eVar 1) (oPart none) (oPart (some (eVar 2))) oCut) (e3 (eVar 1) (oPart (some (e2 (eVar 2) (eC (.int 1)) oAdd))) (oPart none) oCut) oAddA) (aCons (e2 (e3 (eVar 1) (oPart none) (oPart (some (e2 (eVar 2) (eC (.int 1)) oAdd))) oCut) (e3 (eVar 1) (oPart (some (eVar 2))) (oPart none) oCut) oAddA) (aCons (e2 (eVar 1) (eTup (aCons (eC (.int 0)) aNil)) oAdd) aNil))))) lCat)) (gSet 5)) (sRet (eNew (e2 (tOur (eVar 5)) (tNew (lLst (aCons (e2 (eVar 1) (eTup (aCons (eC (.int 0)) (aCons (eC (.int 0)) aNil))) oAdd) (aCons (e2 (eVar 1) (eTup (aCons (eC (.int 1)) (aCons (eC (.int 0)) aNil))) oAdd) (aCons (eNew (e1 (e1 (eVar 1) seqOf) sList)) aNil))))) lCat))))))))
def m__law_others : List D → AH → Res D := fnR 7 2 b__law_others
theorem ok__law_others (T : Txt K w mg) : FnG P w K mg base 2 T._law_others.a T._law_others.fd ["_law_deck_here", "_law_path"] m__law_others := by
  have H__law_draw : FnG P w K mg base 1 T._law_draw.a T._law_draw.fd ["_law_deck_here", "_law_size"] (m__law_draw) := (ok__law_draw T).mono (by omega)
  refine fnG_R T._law_others.F sc__law_others (fun cdv A lo s H E hr => ?_)
  exact (pzs_cons (pz_set sc__law_others.nd rfl (by first | exact Or.inl rfl | exact Or.inr rfl) (pd_call H__law_draw hr rfl T._law_draw.g T._law_draw.k T._law_draw.b (takes_f rfl rfl rfl rfl) (pas_cons (pd_var 0) (pas_cons (pd_callB cd_len rfl T.n_len (by decide +kernel) (pas_cons (pd_var 1) pas_nil)) pas_nil)) (many_cons (many_cons many_nil))))
    (pzs_cons (pz_set sc__law_others.nd rfl (by first | exact Or.inl rfl | exact Or.inr rfl) (pd_ix (pd_var 1) (pd_var 2)))
    (pzs_cons (pz_set sc__law_others.nd rfl (by first | exact Or.inl rfl | exact Or.inr rfl) (pd_new (pl_lst (pas_cons (pd_op od_add (pd_var 3) pd_int) (pas_cons (pd_op od_sub (pd_var 3) pd_int) (pas_cons (pd_neg pd_int) (pas_cons (pd_op od_sub pd_int (pd_var 3)) (pas_cons (pd_op od_add (pd_var 3) pd_int) (pas_cons (pd_op od_pow pd_int pd_int) (pas_cons (pd_cmp (od_eq hr) (pd_var 3) pd_int) (pas_cons (pd_cmp (od_eq hr) (pd_var 3) pd_int) (pas_cons (pd_callT cd_str rfl T.n_str (by decide +kernel) (pas_cons (pd_var 3) pas_nil)) (pas_cons pd_non (pas_cons (pd_tup (pas_cons (pd_var 3) pas_nil)) pas_nil))))))))))))))
    (pzs_cons (pz_setLcv rfl sc__law_others.nd rfl rfl (sw_true rfl rfl rfl (by decide +kernel)) (pf_l (pl_cat (plt_d (pd_var 4)) (plt_l (pl_lst (pas_cons pd_int (pas_cons pd_int (pas_cons pd_int pas_nil))))))) (blkOk_by (N := ["_law_deck_here", "_law_path", "_law_at", "_law_here", "_law_odd", "_law_found", "_law_one"]) (sc := defScope s__law_others) (own := [("_law_one", 6)]) (by decide +kernel)) rfl (by decide) (fun _ _ _ _ _ => (pt_name sc__law_others.nd rfl (by first | exact Or.inl rfl | exact Or.inr rfl))) (fun _ _ _ _ _ => ptsd_nil) (fun _ _ _ _ _ => (pd_op od_add (pd_op od_add (pd_cut (pd_var 1) pp_none (pp_some (pd_var 2))) (pd_tup (pas_cons (pd_var 6) pas_nil))) (pd_cut (pd_var 1) (pp_some (pd_op od_add (pd_var 2) pd_int)) pp_none))))
    (pzs_cons (pz_set sc__law_others.nd rfl (by first | exact Or.inl rfl | exact Or.inr rfl) (pd_new (pl_cat (plt_d (pd_var 5)) (plt_l (pl_lst (pas_cons (pd_op od_addA (pd_cut (pd_var 1) pp_none (pp_some (pd_var 2))) (pd_cut (pd_var 1) (pp_some (pd_op od_add (pd_var 2) pd_int)) pp_none)) (pas_cons (pd_op od_addA (pd_cut (pd_var 1) pp_none (pp_some (pd_op od_add (pd_var 2) pd_int))) (pd_cut (pd_var 1) (pp_some (pd_var 2)) pp_none)) (pas_cons (pd_op od_add (pd_var 1) (pd_tup (pas_cons pd_int pas_nil))) pas_nil))))))))
    (pzs_one (pz_ret (pd_new (pl_cat (plt_d (pd_var 5)) (plt_l (pl_lst (pas_cons (pd_op od_add (pd_var 1) (pd_tup (pas_cons pd_int (pas_cons pd_int pas_nil)))) (pas_cons (pd_op od_add (pd_var 1) (pd_tup (pas_cons pd_int (pas_cons pd_int pas_nil)))) (pas_cons (pd_new (pg_callST cs_list rfl T.n_list (by decide +kernel) (pq_d (pd_var 1)))) pas_nil))))))))))))))
theorem sc__law_right : FnScope ["_law_program_here", "_law_known", "_law_path"] ["_law_program_here", "_law_known", "_law_path"] (defScope s__law_right) := ⟨rfl, rfl, rfl, by decide +kernel, rfl, by decide +kernel, by decide +kernel⟩
def b__law_right : SM := (sRet (eB (e2 (e1 (aCons (e1 (aCons (eVar 0) (aCons (eVar 2) aNil)) m_row_at) aNil) oRepr) (e1 (aCons (eDGet2 (eVar 1) (e1 (aCons (eVar 2) aNil) oRepr) (eC (.non))) aNil) oRepr) cEq)))
def m__law_right : List D → AH → Res D := fnR 3 3 b__law_right
theorem ok__law_right (T : Txt K w mg) : FnG P w K mg base 6 T._law_right.a T._law_right.fd ["_law_program_here", "_law_known", "_law_path"] m__law_right := by
  have H_row_at : FnG P w K mg base 5 T.row_at.a T.row_at.fd ["program", "path"] (m_row_at) := (ok_row_at T).mono (by omega)
  refine fnG_R T._law_right.F sc__law_right (fun cdv A lo s H E hr => ?_)
  exact (pzs_one (pz_ret (pd_cmp (od_eq hr) (pd_callB (cd_repr hr) rfl T.n_repr (by decide +kernel) (pas_cons (pd_call H_row_at hr rfl T.row_at.g T.row_at.k T.row_at.b (takes_f rfl rfl rfl rfl) (pas_cons (pd_var 0) (pas_cons (pd_var 2) pas_nil)) (many_cons (many_cons many_nil))) pas_nil)) (pd_callB (cd_repr hr) rfl T.n_repr (by decide +kernel) (pas_cons (pd_dget2 hr (pd_var 1) (pd_callB (cd_repr hr) rfl T.n_repr (by decide +kernel) (pas_cons (pd_var 2) pas_nil)) pd_non ⟨rfl, rfl, rfl, rfl⟩) pas_nil)))))
theorem sc_law : FnScope ["_law_script", "_law_deck_here", "_law_turn", "_law_program_here", "_law_kept", "_law_paths_here", "_law_known", "_law_k", "_law_odd", "_law_path", "_law_some", "_law_row_here"] ["_law_script"] (defScope s_law) := ⟨rfl, rfl, rfl, by decide +kernel, rfl, by decide +kernel, by decide +kernel⟩
def b_law : SM := (sSeq (sAsg (e1 (aCons (eVar 0) aNil) m__law_deck) (gSet 1)) (sSeq (sFor (e1 (eC (.int 3)) iRange1) (gSet 2) (sSeq (sAsg (e1 (aCons (eVar 1) aNil) m__law_program) (gSet 3)) (sSeq (sAsg (e1 (aCons (eVar 3) aNil) oRepr) (gSet 4)) (sSeq (sAsg (e1 (aCons (eVar 3) aNil) (m__law_paths 20)) (gSet 5)) (sSeq (sAsg (e1 (lLc (e1 (eVar 5) iVal) (gTupD 2 (gConsD (gSet 9) (gConsD (gSet 11) gNilD))) bYes (eTup (aCons (e1 (aCons (eVar 9) aNil) oRepr) (aCons (eVar 11) aNil))) [9, 11]) sDict) (gSet 6)) (sSeq (sIf (e2 (e1 (aCons (eVar 3) aNil) (m_rows_in 20)) (e1 (aCons (eVar 5) aNil) oLenA) cNe) (sRet (eC (.bl false))) sSkip) (sSeq (sIf (bNil true (lLc (e1 (eVar 5) iVal) (gTupD 2 (gConsD (gSet 9) (gConsD (gSet 11) gNilD))) (bNot (e1 (e1 (aCons (eVar 3) (aCons (eVar 6) (aCons (eVar 9) aNil))) m__law_right) truth)) (eC (.int 1)) [9, 11])) (sRet (eC (.bl false))) sSkip) (sSeq (sFor (e1 (eC (.int 6)) iRange1) (gSet 7) (sSeq (sAsg (e1 (aCons (eVar 1) (aCons (e1 (aCons (eVar 1) (aCons (eNew (e2 (tNew (lLc (e1 (eVar 5) iVal) (gTupD 2 (gConsD (gSet 9) (gConsD (gSet 11) gNilD))) bYes (eVar 9) [9, 11])) (tNew (lLst (aCons (eTup (aCons (eC (.int 0)) aNil)) aNil))) lCat)) aNil)) m__law_pick) aNil)) m__law_others) (gSet 10)) (sIf (bNil true (lLc (e1 (eVar 10) iVal) (gSet 9) (bNot (e1 (e1 (aCons (eVar 3) (aCons (eVar 6) (aCons (eVar 9) aNil))) m__law_right) truth)) (eVar 9) [9])) (sRet (eC (.bl false))) sSkip))) (sSeq (sAsg (eNew (lLst (aCons (eC (.non)) (aCons (eC (.bl true)) (aCons (eC (.int 0)) (aCons (eC (.str "")) (aCons (eC (.str "0")) (aCons (eTup aNil) (aCons (eNew (lLst aNil)) (aCons eDnew (aCons (eNew (lLst (aCons (eC (.int 0)) aNil))) (aCons (eTup (aCons (eC (.non)) aNil)) (aCons (eTup (aCons (eTup (aCons (eC (.int 0)) aNil)) aNil)) (aCons (eTup (aCons (eC (.int 0)) (aCons (eC (.int 0)) aNil))) (aCons (eTup (aCons (e1 (aCons (eVar 3) aNil) oLenA) aNil)) (aCons (eTup (aCons (e1 (eC (.int 1)) oNeg) aNil)) (aCons (eTup (aCons (eC (.bl true)) aNil)) aNil))))))))))))))))) (gSet 8)) (sFor (e1 (eVar 8) iVal) (gSet 9) (sIf (bOr (bNot (e1 (e1 (aCons (eVar 3) (aCons (eVar 6) (aCons (eVar 9) aNil))) m__law_right) truth)) (e2 (e1 (aCons (eVar 3) aNil) oRepr) (eVar 4) cNe)) (sRet (eC (.bl false))) sSkip))))))))))) (sRet (eC (.bl true)))))
def m_law : List D → AH → Res D := fnR 12 1 b_law
theorem ok_law (T : Txt K w mg) : FnG P w K mg base 26 T.law.a T.law.fd ["_law_script"] m_law := by
  have H__law_deck : FnG P w K mg base 25 T._law_deck.a T._law_deck.fd ["_law_script"] (m__law_deck) := (ok__law_deck T).mono (by omega)
  have H__law_program : FnG P w K mg base 25 T._law_program.a T._law_program.fd ["_law_deck_here"] (m__law_program) := (ok__law_program T).mono (by omega)
  have H__law_paths : FnG P w K mg base 25 T._law_paths.a T._law_paths.fd ["_law_rows_here"] (m__law_paths 20) := (ok__law_paths T 20).mono (by omega)
  have H_rows_in : FnG P w K mg base 25 T.rows_in.a T.rows_in.fd ["program"] (m_rows_in 20) := (ok_rows_in T 20).mono (by omega)
  have H__law_right : FnG P w K mg base 25 T._law_right.a T._law_right.fd ["_law_program_here", "_law_known", "_law_path"] (m__law_right) := (ok__law_right T).mono (by omega)
  have H__law_others : FnG P w K mg base 25 T._law_others.a T._law_others.fd ["_law_deck_here", "_law_path"] (m__law_others) := (ok__law_others T).mono (by omega)
  have H__law_pick : FnG P w K mg base 25 T._law_pick.a T._law_pick.fd ["_law_deck_here", "_law_some"] (m__law_pick) := (ok__law_pick T).mono (by omega)
  refine fnG_R T.law.F sc_law (fun cdv A lo s H E hr => ?_)
  exact (pzs_cons (pz_set sc_law.nd rfl (by first | exact Or.inl rfl | exact Or.inr rfl) (pd_call H__law_deck hr rfl T._law_deck.g T._law_deck.k T._law_deck.b (takes_f rfl rfl rfl rfl) (pas_cons (pd_var 0) pas_nil) (many_cons many_nil)))
    (pzs_cons (pz_for (passes_of rfl) rfl (pf_range1 rfl T.n_range pd_int) (pt_name sc_law.nd rfl (by first | exact Or.inl rfl | exact Or.inr rfl)) (pzs_cons (pz_set sc_law.nd rfl (by first | exact Or.inl rfl | exact Or.inr rfl) (pd_call H__law_program hr rfl T._law_program.g T._law_program.k T._law_program.b (takes_f rfl rfl rfl rfl) (pas_cons (pd_var 1) pas_nil) (many_cons many_nil)))
    (pzs_cons (pz_set sc_law.nd rfl (by first | exact Or.inl rfl | exact Or.inr rfl) (pd_callB (cd_repr hr) rfl T.n_repr (by decide +kernel) (pas_cons (pd_var 3) pas_nil)))
    (pzs_cons (pz_set sc_law.nd rfl (by first | exact Or.inl rfl | exact Or.inr rfl) (pd_call H__law_paths hr rfl T._law_paths.g T._law_paths.k T._law_paths.b (takes_f rfl rfl rfl rfl) (pas_cons (pd_var 3) pas_nil) (many_cons many_nil)))
    (pzs_cons (pz_set sc_law.nd rfl (by first | exact Or.inl rfl | exact Or.inr rfl) (pg_callST (cs_dict rfl) rfl T.n_dict (by decide +kernel) (pm_l (pl_lcv rfl sc_law.nd (pf_d (pd_var 5)) (blkOk_by (N := ["_law_script", "_law_deck_here", "_law_turn", "_law_program_here", "_law_kept", "_law_paths_here", "_law_known", "_law_k", "_law_odd", "_law_path", "_law_some", "_law_row_here"]) (sc := defScope s_law) (own := [("_law_path", 9), ("_law_row_here", 11)]) (by decide +kernel)) rfl (by decide) (fun _ _ _ _ _ => (pt_tup rfl (ptn_cons (pt_name sc_law.nd rfl (by first | exact Or.inl rfl | exact Or.inr rfl)) (ptn_cons (pt_name sc_law.nd rfl (by first | exact Or.inl rfl | exact Or.inr rfl)) ptn_nil)))) (fun _ _ _ _ _ => ptsd_nil) (fun _ _ _ _ _ => (pd_tup (pas_cons (pd_callB (cd_repr hr) rfl T.n_repr (by decide +kernel) (pas_cons (pd_var 9) pas_nil)) (pas_cons (pd_var 11) pas_nil))))))))
    (pzs_cons (pz_if (pb_cmp (od_ne hr) (pd_call H_rows_in hr rfl T.rows_in.g T.rows_in.k T.rows_in.b (takes_f rfl rfl rfl rfl) (pas_cons (pd_var 3) pas_nil) (many_cons many_nil)) (pd_callB cd_len rfl T.n_len (by decide +kernel) (pas_cons (pd_var 5) pas_nil))) (pzs_one (pz_ret pd_bl)) pzs_nil)
    (pzs_cons (pz_if (pb_notNil hr (pm_l (pl_lcv rfl sc_law.nd (pf_d (pd_var 5)) (blkOk_by (N := ["_law_script", "_law_deck_here", "_law_turn", "_law_program_here", "_law_kept", "_law_paths_here", "_law_known", "_law_k", "_law_odd", "_law_path", "_law_some", "_law_row_here"]) (sc := defScope s_law) (own := [("_law_path", 9), ("_law_row_here", 11)]) (by decide +kernel)) rfl (by decide) (fun _ _ _ _ _ => (pt_tup rfl (ptn_cons (pt_name sc_law.nd rfl (by first | exact Or.inl rfl | exact Or.inr rfl)) (ptn_cons (pt_name sc_law.nd rfl (by first | exact Or.inl rfl | exact Or.inr rfl)) ptn_nil)))) (fun _ _ _ _ _ => (ptsd_one (pb_not (pb_val (pd_call H__law_right hr rfl T._law_right.g T._law_right.k T._law_right.b HA.takes0 (pas_cons (pd_var 3) (pas_cons (pd_var 6) (pas_cons (pd_var 9) pas_nil))) (many_cons (many_cons (many_cons many_nil)))))))) (fun _ _ _ _ _ => pd_int)))) (pzs_one (pz_ret pd_bl)) pzs_nil)
    (pzs_cons (pz_for (passes_of rfl) rfl (pf_range1 rfl T.n_range pd_int) (pt_name sc_law.nd rfl (by first | exact Or.inl rfl | exact Or.inr rfl)) (pzs_cons (pz_set sc_law.nd rfl (by first | exact Or.inl rfl | exact Or.inr rfl) (pd_call H__law_others hr rfl T._law_others.g T._law_others.k T._law_others.b (takes_f rfl rfl rfl rfl) (pas_cons (pd_var 1) (pas_cons (pd_call H__law_pick hr rfl T._law_pick.g T._law_pick.k T._law_pick.b (takes_f rfl rfl rfl rfl) (pas_cons (pd_var 1) (pas_cons (pd_new (pl_cat (plt_l (pl_lcv rfl sc_law.nd (pf_d (pd_var 5)) (blkOk_by (N := ["_law_script", "_law_deck_here", "_law_turn", "_law_program_here", "_law_kept", "_law_paths_here", "_law_known", "_law_k", "_law_odd", "_law_path", "_law_some", "_law_row_here"]) (sc := defScope s_law) (own := [("_law_path", 9), ("_law_row_here", 11)]) (by decide +kernel)) rfl (by decide) (fun _ _ _ _ _ => (pt_tup rfl (ptn_cons (pt_name sc_law.nd rfl (by first | exact Or.inl rfl | exact Or.inr rfl)) (ptn_cons (pt_name sc_law.nd rfl (by first | exact Or.inl rfl | exact Or.inr rfl)) ptn_nil)))) (fun _ _ _ _ _ => ptsd_nil) (fun _ _ _ _ _ => (pd_var 9)))) (plt_l (pl_lst (pas_cons (pd_tup (pas_cons pd_int pas_nil)) pas_nil))))) pas_nil)) (many_cons (many_cons many_nil))) pas_nil)) (many_cons (many_cons many_nil))))
    (pzs_one (pz_if (pb_notNil hr (pm_l (pl_lcv rfl sc_law.nd (pf_d (pd_var 10)) (blkOk_by (N := ["_law_script", "_law_deck_here", "_law_turn", "_law_program_here", "_law_kept", "_law_paths_here", "_law_known", "_law_k", "_law_odd", "_law_path", "_law_some", "_law_row_here"]) (sc := defScope s_law) (own := [("_law_path", 9)]) (by decide +kernel)) rfl (by decide) (fun _ _ _ _ _ => (pt_name sc_law.nd rfl (by first | exact Or.inl rfl | exact Or.inr rfl))) (fun _ _ _ _ _ => (ptsd_one (pb_not (pb_val (pd_call H__law_right hr rfl T._law_right.g T._law_right.k T._law_right.b HA.takes0 (pas_cons (pd_var 3) (pas_cons (pd_var 6) (pas_cons (pd_var 9) pas_nil))) (many_cons (many_cons (many_cons many_nil)))))))) (fun _ _ _ _ _ => (pd_var 9))))) (pzs_one (pz_ret pd_bl)) pzs_nil))))
    (pzs_cons (pz_set sc_law.nd rfl (by first | exact Or.inl rfl | exact Or.inr rfl) (pd_new (pl_lst (pas_cons pd_non (pas_cons pd_bl (pas_cons pd_int (pas_cons pd_str (pas_cons pd_str (pas_cons (pd_tup pas_nil) (pas_cons (pd_new (pl_lst pas_nil)) (pas_cons pd_dnew (pas_cons (pd_new (pl_lst (pas_cons pd_int pas_nil))) (pas_cons (pd_tup (pas_cons pd_non pas_nil)) (pas_cons (pd_tup (pas_cons (pd_tup (pas_cons pd_int pas_nil)) pas_nil)) (pas_cons (pd_tup (pas_cons pd_int (pas_cons pd_int pas_nil))) (pas_cons (pd_tup (pas_cons (pd_callB cd_len rfl T.n_len (by decide +kernel) (pas_cons (pd_var 3) pas_nil)) pas_nil)) (pas_cons (pd_tup (pas_cons (pd_neg pd_int) pas_nil)) (pas_cons (pd_tup (pas_cons pd_bl pas_nil)) pas_nil))))))))))))))))))
    (pzs_one (pz_for (passes_of rfl) rfl (pf_d (pd_var 8)) (pt_name sc_law.nd rfl (by first | exact Or.inl rfl | exact Or.inr rfl)) (pzs_one (pz_if (pbw (pbw_or (pb_not (pb_val (pd_call H__law_right hr rfl T._law_right.g T._law_right.k T._law_right.b (takes_f rfl rfl rfl rfl) (pas_cons (pd_var 3) (pas_cons (pd_var 6) (pas_cons (pd_var 9) pas_nil))) (many_cons (many_cons (many_cons many_nil)))))) (pbw_or1 (pb_cmp (od_ne hr) (pd_callB (cd_repr hr) rfl T.n_repr (by decide +kernel) (pas_cons (pd_var 3) pas_nil)) (pd_var 4))))) (pzs_one (pz_ret pd_bl)) pzs_nil)))))))))))))
    (pzs_one (pz_ret pd_bl))))
end
theorem all_mk {P : Program} {w : World} {K : PySem.W.Frag} {h : Heap} {mg : Str → Option Value} {fa : Addr} (X : K.In h) (G : h.Ns mainGlobals mg) (hfa : mg "law" = some (.ref fa))
    {f0 : Addr} {oc0 kV0 doc0 pm0 cd0 ct0 : Value} {od0 an0 : Option Addr} {sl0 : Array (Option Value)}
    {f1 : Addr} {oc1 kV1 doc1 pm1 cd1 ct1 : Value} {od1 an1 : Option Addr} {sl1 : Array (Option Value)}
    {f2 : Addr} {oc2 kV2 doc2 pm2 cd2 ct2 : Value} {od2 an2 : Option Addr} {sl2 : Array (Option Value)}
    {f3 : Addr} {oc3 kV3 doc3 pm3 cd3 ct3 : Value} {od3 an3 : Option Addr} {sl3 : Array (Option Value)}
    {f4 : Addr} {oc4 kV4 doc4 pm4 cd4 ct4 : Value} {od4 an4 : Option Addr} {sl4 : Array (Option Value)}
    {f5 : Addr} {oc5 kV5 doc5 pm5 cd5 ct5 : Value} {od5 an5 : Option Addr} {sl5 : Array (Option Value)}
    {f6 : Addr} {oc6 kV6 doc6 pm6 cd6 ct6 : Value} {od6 an6 : Option Addr} {sl6 : Array (Option Value)}
    {f7 : Addr} {oc7 kV7 doc7 pm7 cd7 ct7 : Value} {od7 an7 : Option Addr} {sl7 : Array (Option Value)}
    {f8 : Addr} {oc8 kV8 doc8 pm8 cd8 ct8 : Value} {od8 an8 : Option Addr} {sl8 : Array (Option Value)}
    {f9 : Addr} {oc9 kV9 doc9 pm9 cd9 ct9 : Value} {od9 an9 : Option Addr} {sl9 : Array (Option Value)}
    {f10 : Addr} {oc10 kV10 doc10 pm10 cd10 ct10 : Value} {od10 an10 : Option Addr} {sl10 : Array (Option Value)}
    {f11 : Addr} {oc11 kV11 doc11 pm11 cd11 ct11 : Value} {od11 an11 : Option Addr} {sl11 : Array (Option Value)}
    {f12 : Addr} {oc12 kV12 doc12 pm12 cd12 ct12 : Value} {od12 an12 : Option Addr} {sl12 : Array (Option Value)}
    {f13 : Addr} {oc13 kV13 doc13 pm13 cd13 ct13 : Value} {od13 an13 : Option Addr} {sl13 : Array (Option Value)}
    {f14 : Addr} {oc14 kV14 doc14 pm14 cd14 ct14 : Value} {od14 an14 : Option Addr} {sl14 : Array (Option Value)}
    {f15 : Addr} {oc15 kV15 doc15 pm15 cd15 ct15 : Value} {od15 an15 : Option Addr} {sl15 : Array (Option Value)}
    {f16 : Addr} {oc16 kV16 doc16 pm16 cd16 ct16 : Value} {od16 an16 : Option Addr} {sl16 : Array (Option Value)}
    {f17 : Addr} {oc17 kV17 doc17 pm17 cd17 ct17 : Value} {od17 an17 : Option Addr} {sl17 : Array (Option Value)}
    {f18 : Addr} {oc18 kV18 doc18 pm18 cd18 ct18 : Value} {od18 an18 : Option Addr} {sl18 : Array (Option Value)}
    {f19 : Addr} {oc19 kV19 doc19 pm19 cd19 ct19 : Value} {od19 an19 : Option Addr} {sl19 : Array (Option Value)}
    {t_IF : Tok}
    {t_AGAIN : Tok}
    (n0 : PySem.W.nsIn K mainGlobals "is_whole" = some (some (.ref f0)))
    (l0 : K.lookup f0 = some ⟨oc0, od0, .func (PySem.W.fnOf "is_whole" "is_whole" (defArgs s_is_whole) (defBody s_is_whole) (defScope s_is_whole) .none kV0 doc0 pm0 an0 cd0 ct0), sl0⟩)
    (cd_0 : PySem.W.codeIn K cd0 "is_whole" = true)
    (k0 : PySem.W.keepIn K (.ref f0) = true)
    (n1 : PySem.W.nsIn K mainGlobals "is_within" = some (some (.ref f1)))
    (l1 : K.lookup f1 = some ⟨oc1, od1, .func (PySem.W.fnOf "is_within" "is_within" (defArgs s_is_within) (defBody s_is_within) (defScope s_is_within) .none kV1 doc1 pm1 an1 cd1 ct1), sl1⟩)
    (cd_1 : PySem.W.codeIn K cd1 "is_within" = true)
    (k1 : PySem.W.keepIn K (.ref f1) = true)
    (n2 : PySem.W.nsIn K mainGlobals "inner_of" = some (some (.ref f2)))
    (l2 : K.lookup f2 = some ⟨oc2, od2, .func (PySem.W.fnOf "inner_of" "inner_of" (defArgs s_inner_of) (defBody s_inner_of) (defScope s_inner_of) .none kV2 doc2 pm2 an2 cd2 ct2), sl2⟩)
    (cd_2 : PySem.W.codeIn K cd2 "inner_of" = true)
    (k2 : PySem.W.keepIn K (.ref f2) = true)
    (n3 : PySem.W.nsIn K mainGlobals "rows_in" = some (some (.ref f3)))
    (l3 : K.lookup f3 = some ⟨oc3, od3, .func (PySem.W.fnOf "rows_in" "rows_in" (defArgs s_rows_in) (defBody s_rows_in) (defScope s_rows_in) .none kV3 doc3 pm3 an3 cd3 ct3), sl3⟩)
    (cd_3 : PySem.W.codeIn K cd3 "rows_in" = true)
    (k3 : PySem.W.keepIn K (.ref f3) = true)
    (n4 : PySem.W.nsIn K mainGlobals "is_number_below" = some (some (.ref f4)))
    (l4 : K.lookup f4 = some ⟨oc4, od4, .func (PySem.W.fnOf "is_number_below" "is_number_below" (defArgs s_is_number_below) (defBody s_is_number_below) (defScope s_is_number_below) .none kV4 doc4 pm4 an4 cd4 ct4), sl4⟩)
    (cd_4 : PySem.W.codeIn K cd4 "is_number_below" = true)
    (k4 : PySem.W.keepIn K (.ref f4) = true)
    (n5 : PySem.W.nsIn K mainGlobals "rows_around" = some (some (.ref f5)))
    (l5 : K.lookup f5 = some ⟨oc5, od5, .func (PySem.W.fnOf "rows_around" "rows_around" (defArgs s_rows_around) (defBody s_rows_around) (defScope s_rows_around) .none kV5 doc5 pm5 an5 cd5 ct5), sl5⟩)
    (cd_5 : PySem.W.codeIn K cd5 "rows_around" = true)
    (k5 : PySem.W.keepIn K (.ref f5) = true)
    (n6 : PySem.W.nsIn K mainGlobals "row_at" = some (some (.ref f6)))
    (l6 : K.lookup f6 = some ⟨oc6, od6, .func (PySem.W.fnOf "row_at" "row_at" (defArgs s_row_at) (defBody s_row_at) (defScope s_row_at) .none kV6 doc6 pm6 an6 cd6 ct6), sl6⟩)
    (cd_6 : PySem.W.codeIn K cd6 "row_at" = true)
    (k6 : PySem.W.keepIn K (.ref f6) = true)
    (n7 : PySem.W.nsIn K mainGlobals "_law_deck" = some (some (.ref f7)))
    (l7 : K.lookup f7 = some ⟨oc7, od7, .func (PySem.W.fnOf "_law_deck" "_law_deck" (defArgs s__law_deck) (defBody s__law_deck) (defScope s__law_deck) .none kV7 doc7 pm7 an7 cd7 ct7), sl7⟩)
    (cd_7 : PySem.W.codeIn K cd7 "_law_deck" = true)
    (k7 : PySem.W.keepIn K (.ref f7) = true)
    (n8 : PySem.W.nsIn K mainGlobals "_law_draw" = some (some (.ref f8)))
    (l8 : K.lookup f8 = some ⟨oc8, od8, .func (PySem.W.fnOf "_law_draw" "_law_draw" (defArgs s__law_draw) (defBody s__law_draw) (defScope s__law_draw) .none kV8 doc8 pm8 an8 cd8 ct8), sl8⟩)
    (cd_8 : PySem.W.codeIn K cd8 "_law_draw" = true)
    (k8 : PySem.W.keepIn K (.ref f8) = true)
    (n9 : PySem.W.nsIn K mainGlobals "_law_pick" = some (some (.ref f9)))
    (l9 : K.lookup f9 = some ⟨oc9, od9, .func (PySem.W.fnOf "_law_pick" "_law_pick" (defArgs s__law_pick) (defBody s__law_pick) (defScope s__law_pick) .none kV9 doc9 pm9 an9 cd9 ct9), sl9⟩)
    (cd_9 : PySem.W.codeIn K cd9 "_law_pick" = true)
    (k9 : PySem.W.keepIn K (.ref f9) = true)
    (n10 : PySem.W.nsIn K mainGlobals "_law_number" = some (some (.ref f10)))
    (l10 : K.lookup f10 = some ⟨oc10, od10, .func (PySem.W.fnOf "_law_number" "_law_number" (defArgs s__law_number) (defBody s__law_number) (defScope s__law_number) .none kV10 doc10 pm10 an10 cd10 ct10), sl10⟩)
    (cd_10 : PySem.W.codeIn K cd10 "_law_number" = true)
    (k10 : PySem.W.keepIn K (.ref f10) = true)
    (n11 : PySem.W.nsIn K mainGlobals "_law_operand" = some (some (.ref f11)))
    (l11 : K.lookup f11 = some ⟨oc11, od11, .func (PySem.W.fnOf "_law_operand" "_law_operand" (defArgs s__law_operand) (defBody s__law_operand) (defScope s__law_operand) .none kV11 doc11 pm11 an11 cd11 ct11), sl11⟩)
    (cd_11 : PySem.W.codeIn K cd11 "_law_operand" = true)
    (k11 : PySem.W.keepIn K (.ref f11) = true)
    (n12 : PySem.W.nsIn K mainGlobals "_law_straight" = some (some (.ref f12)))
    (l12 : K.lookup f12 = some ⟨oc12, od12, .func (PySem.W.fnOf "_law_straight" "_law_straight" (defArgs s__law_straight) (defBody s__law_straight) (defScope s__law_straight) .none kV12 doc12 pm12 an12 cd12 ct12), sl12⟩)
    (cd_12 : PySem.W.codeIn K cd12 "_law_straight" = true)
    (k12 : PySem.W.keepIn K (.ref f12) = true)
    (n13 : PySem.W.nsIn K mainGlobals "_law_row" = some (some (.ref f13)))
    (l13 : K.lookup f13 = some ⟨oc13, od13, .func (PySem.W.fnOf "_law_row" "_law_row" (defArgs s__law_row) (defBody s__law_row) (defScope s__law_row) .none kV13 doc13 pm13 an13 cd13 ct13), sl13⟩)
    (cd_13 : PySem.W.codeIn K cd13 "_law_row" = true)
    (k13 : PySem.W.keepIn K (.ref f13) = true)
    (n14 : PySem.W.nsIn K mainGlobals "_law_rows" = some (some (.ref f14)))
    (l14 : K.lookup f14 = some ⟨oc14, od14, .func (PySem.W.fnOf "_law_rows" "_law_rows" (defArgs s__law_rows) (defBody s__law_rows) (defScope s__law_rows) .none kV14 doc14 pm14 an14 cd14 ct14), sl14⟩)
    (cd_14 : PySem.W.codeIn K cd14 "_law_rows" = true)
    (k14 : PySem.W.keepIn K (.ref f14) = true)
    (n15 : PySem.W.nsIn K mainGlobals "_law_program" = some (some (.ref f15)))
    (l15 : K.lookup f15 = some ⟨oc15, od15, .func (PySem.W.fnOf "_law_program" "_law_program" (defArgs s__law_program) (defBody s__law_program) (defScope s__law_program) .none kV15 doc15 pm15 an15 cd15 ct15), sl15⟩)
    (cd_15 : PySem.W.codeIn K cd15 "_law_program" = true)
    (k15 : PySem.W.keepIn K (.ref f15) = true)
    (n16 : PySem.W.nsIn K mainGlobals "_law_paths" = some (some (.ref f16)))
    (l16 : K.lookup f16 = some ⟨oc16, od16, .func (PySem.W.fnOf "_law_paths" "_law_paths" (defArgs s__law_paths) (defBody s__law_paths) (defScope s__law_paths) .none kV16 doc16 pm16 an16 cd16 ct16), sl16⟩)
    (cd_16 : PySem.W.codeIn K cd16 "_law_paths" = true)
    (k16 : PySem.W.keepIn K (.ref f16) = true)
    (n17 : PySem.W.nsIn K mainGlobals "_law_others" = some (some (.ref f17)))
    (l17 : K.lookup f17 = some ⟨oc17, od17, .func (PySem.W.fnOf "_law_others" "_law_others" (defArgs s__law_others) (defBody s__law_others) (defScope s__law_others) .none kV17 doc17 pm17 an17 cd17 ct17), sl17⟩)
    (cd_17 : PySem.W.codeIn K cd17 "_law_others" = true)
    (k17 : PySem.W.keepIn K (.ref f17) = true)
    (n18 : PySem.W.nsIn K mainGlobals "_law_right" = some (some (.ref f18)))
    (l18 : K.lookup f18 = some ⟨oc18, od18, .func (PySem.W.fnOf "_law_right" "_law_right" (defArgs s__law_right) (defBody s__law_right) (defScope s__law_right) .none kV18 doc18 pm18 an18 cd18 ct18), sl18⟩)
    (cd_18 : PySem.W.codeIn K cd18 "_law_right" = true)
    (k18 : PySem.W.keepIn K (.ref f18) = true)
    (n19 : PySem.W.nsIn K mainGlobals "law" = some (some (.ref f19)))
    (l19 : K.lookup f19 = some ⟨oc19, od19, .func (PySem.W.fnOf "law" "law" (defArgs s_law) (defBody s_law) (defScope s_law) .none kV19 doc19 pm19 an19 cd19 ct19), sl19⟩)
    (cd_19 : PySem.W.codeIn K cd19 "law" = true)
    (k19 : PySem.W.keepIn K (.ref f19) = true)
    (b_bool : PySem.W.nsIn K mainGlobals "bool" = some none)
    (b_dict : PySem.W.nsIn K mainGlobals "dict" = some none)
    (b_enumerate : PySem.W.nsIn K mainGlobals "enumerate" = some none)
    (b_int : PySem.W.nsIn K mainGlobals "int" = some none)
    (b_isinstance : PySem.W.nsIn K mainGlobals "isinstance" = some none)
    (b_len : PySem.W.nsIn K mainGlobals "len" = some none)
    (b_list : PySem.W.nsIn K mainGlobals "list" = some none)
    (b_range : PySem.W.nsIn K mainGlobals "range" = some none)
    (b_repr : PySem.W.nsIn K mainGlobals "repr" = some none)
    (b_str : PySem.W.nsIn K mainGlobals "str" = some none)
    (b_sum : PySem.W.nsIn K mainGlobals "sum" = some none)
    (b_tuple : PySem.W.nsIn K mainGlobals "tuple" = some none)
    (c_IF : PySem.W.nsIn K mainGlobals "IF" = some (some (.str "if" t_IF)))
    (c_AGAIN : PySem.W.nsIn K mainGlobals "AGAIN" = some (some (.str "again" t_AGAIN)))
    : ∃ fd : FuncData, (∀ (s : Shared) (u : Value), BindsTo s fd ⟨[u], []⟩ [("_law_script", u)]) ∧ ∀ base : Heap, K.In base → base.Ns mainGlobals mg → FnG P w K mg base 26 fa fd ["_law_script"] m_law := by
  have e := hfa.symm.trans (PySem.W.mg_of X G n19)
  have e0 : fa = f19 := by cases e; rfl
  clear e
  rw [e0]
  have T : ∃ T : Txt K w mg, T.law.a = f19 ∧ T.law.fd = PySem.W.fnOf "law" "law" (defArgs s_law) (defBody s_law) (defScope s_law) .none kV19 doc19 pm19 an19 cd19 ct19 := ⟨{
    is_whole := tf_mk X G (fun _ _ _ _ _ _ us hl => match us, hl with | [_], _ => rfl) l0 n0 cd_0 k0,
    is_within := tf_mk X G (fun _ _ _ _ _ _ us hl => match us, hl with | [_, _, _], _ => rfl) l1 n1 cd_1 k1,
    inner_of := tf_mk X G (fun _ _ _ _ _ _ us hl => match us, hl with | [_], _ => rfl) l2 n2 cd_2 k2,
    rows_in := tf_mk X G (fun _ _ _ _ _ _ us hl => match us, hl with | [_], _ => rfl) l3 n3 cd_3 k3,
    is_number_below := tf_mk X G (fun _ _ _ _ _ _ us hl => match us, hl with | [_, _], _ => rfl) l4 n4 cd_4 k4,
    rows_around := tf_mk X G (fun _ _ _ _ _ _ us hl => match us, hl with | [_, _], _ => rfl) l5 n5 cd_5 k5,
    row_at := tf_mk X G (fun _ _ _ _ _ _ us hl => match us, hl with | [_, _], _ => rfl) l6 n6 cd_6 k6,
    _law_deck := tf_mk X G (fun _ _ _ _ _ _ us hl => match us, hl with | [_], _ => rfl) l7 n7 cd_7 k7,
    _law_draw := tf_mk X G (fun _ _ _ _ _ _ us hl => match us, hl with | [_, _], _ => rfl) l8 n8 cd_8 k8,
    _law_pick := tf_mk X G (fun _ _ _ _ _ _ us hl => match us, hl with | [_, _], _ => rfl) l9 n9 cd_9 k9,
    _law_number := tf_mk X G (fun _ _ _ _ _ _ us hl => match us, hl with | [_], _ => rfl) l10 n10 cd_10 k10,
    _law_operand := tf_mk X G (fun _ _ _ _ _ _ us hl => match us, hl with | [_], _ => rfl) l11 n11 cd_11 k11,
    _law_straight := tf_mk X G (fun _ _ _ _ _ _ us hl => match us, hl with | [_], _ => rfl) l12 n12 cd_12 k12,
    _law_row := tf_mk X G (fun _ _ _ _ _ _ us hl => match us, hl with | [_, _, _], _ => rfl) l13 n13 cd_13 k13,
    _law_rows := tf_mk X G (fun _ _ _ _ _ _ us hl => match us, hl with | [_, _, _, _], _ => rfl) l14 n14 cd_14 k14,
    _law_program := tf_mk X G (fun _ _ _ _ _ _ us hl => match us, hl with | [_], _ => rfl) l15 n15 cd_15 k15,
    _law_paths := tf_mk X G (fun _ _ _ _ _ _ us hl => match us, hl with | [_], _ => rfl) l16 n16 cd_16 k16,
    _law_others := tf_mk X G (fun _ _ _ _ _ _ us hl => match us, hl with | [_, _], _ => rfl) l17 n17 cd_17 k17,
    _law_right := tf_mk X G (fun _ _ _ _ _ _ us hl => match us, hl with | [_, _, _], _ => rfl) l18 n18 cd_18 k18,
    law := tf_mk X G (fun _ _ _ _ _ _ us hl => match us, hl with | [_], _ => rfl) l19 n19 cd_19 k19,
    n_bool := PySem.W.mg_none_of X G b_bool,
    n_dict := PySem.W.mg_none_of X G b_dict,
    n_enumerate := PySem.W.mg_none_of X G b_enumerate,
    n_int := PySem.W.mg_none_of X G b_int,
    n_isinstance := PySem.W.mg_none_of X G b_isinstance,
    n_len := PySem.W.mg_none_of X G b_len,
    n_list := PySem.W.mg_none_of X G b_list,
    n_range := PySem.W.mg_none_of X G b_range,
    n_repr := PySem.W.mg_none_of X G b_repr,
    n_str := PySem.W.mg_none_of X G b_str,
    n_sum := PySem.W.mg_none_of X G b_sum,
    n_tuple := PySem.W.mg_none_of X G b_tuple,
    c_IF := ⟨_, PySem.W.mg_of X G c_IF, cr_str⟩,
    c_AGAIN := ⟨_, PySem.W.mg_of X G c_AGAIN, cr_str⟩ }, rfl, rfl⟩
  obtain ⟨T, e1, e2⟩ := T
  refine ⟨PySem.W.fnOf "law" "law" (defArgs s_law) (defBody s_law) (defScope s_law) .none kV19 doc19 pm19 an19 cd19 ct19, fun s u => .of_eq rfl, fun base _ _ => ?_⟩
  have := ok_law (P := P) (base := base) T
  rw [e1, e2] at this
  exact this
end HL
namespace HA
open PySem PySem.Spec PyProof.Rows L2
structure Dk where
  cells : List Int
  at_ : Int
  sum : Int
structure Dk.Ok (d : Dk) : Prop where
  len : d.cells.length ≤ 64
  lo : 0 ≤ d.at_
  hi : d.at_ < 2 ^ 100
theorem lNil_ints (neg : Bool) (cs : List Int) (ah : AH) : lNil neg (cs.map D.int) ah = .ok (if cs = [] then !neg else neg) ah := by
  cases cs with
  | nil => rfl
  | cons c cs => simp [lNil]
def mixA (seed at_ b : Int) : Int :=
  let n1 := (seed % 2147483647 * 48271 + 69621 * at_ * at_ + 7919) % 2147483629
  let n2 := n1 * n1 % 2147483587
  n2 * (n2 + 39373) % 2147483563 / 64 % b
def Dk.drawA (d : Dk) (b : Int) : Int × Dk := match d.cells with
  | [] => (mixA (d.sum + (d.at_ + 1)) (d.at_ + 1) b, ⟨[], d.at_ + 1, d.sum⟩)
  | c :: r => if c ≥ 10 ^ 18 then (c % b, ⟨c / b :: r, d.at_ + 1, d.sum⟩) else (mixA c (d.at_ + 1) b, ⟨r, d.at_ + 1, d.sum⟩)
def hA (S : List D) (d : Dk) (rest : AH) : AH := .ro S :: .lst (d.cells.map D.int) :: .dK [(.inr "cells", .ref 1), (.inr "at", .int d.at_), (.inr "sum", .int d.sum)] :: rest
def b_tailA : SM := (sSeq (sAsg (e2 (e2 (e2 (e2 (e2 (eVar 4) (eC (.int 2147483647)) oMod) (eC (.int 48271)) oMul) (e2 (e2 (eC (.int 69621)) (eVar 2) oMul) (eVar 2) oMul) oAdd) (eC (.int 7919)) oAdd) (eC (.int 2147483629)) oMod) (gSet 5)) (sSeq (sAsg (e2 (e2 (eVar 5) (eVar 5) oMul) (eC (.int 2147483587)) oMod) (gSet 5)) (sRet (e2 (e2 (e2 (e2 (eVar 5) (e2 (eVar 5) (eC (.int 39373)) oAdd) oMul) (eC (.int 2147483563)) oMod) (eC (.int 64)) oFdiv) (eVar 1) oMod))))
def b_drawA : SM := (sSeq (sPut (eVar 0) (eC (.str "at")) (e2 (e2 (eVar 0) (eC (.str "at")) oGet) (eC (.int 1)) oAdd)) (sSeq (sAsg (e2 (eVar 0) (eC (.str "at")) oGet) (gSet 2)) (sSeq (sAsg (e2 (eVar 0) (eC (.str "cells")) oGet) (gSet 3)) (sSeq (sAsg (e2 (e2 (eVar 0) (eC (.str "sum")) oGet) (eVar 2) oAddA) (gSet 4)) (sSeq (sIf (bNil true (e1 (eVar 3) listOf)) (sSeq (sAsg (eMt (eVar 3) (aCons (eC (.int 0)) aNil) mPop) (gSet 4)) (sIf (e2 (eVar 4) (e2 (eC (.int 10)) (eC (.int 18)) oPow) cGe) (sSeq (sExpr (eMt (eVar 3) (aCons (eC (.int 0)) (aCons (e2 (eVar 4) (eVar 1) oFdiv) aNil)) mInsert)) (sRet (e2 (eVar 4) (eVar 1) oMod))) sSkip)) sSkip) b_tailA)))))
def m_drawA : List D → AH → Res D := fnM 6 2 b_drawA
section
variable {S : List D} {d : Dk} {rest : AH}
end
def DOk (n : Nat) (d : Dk) : Prop := d.cells.length ≤ 64 ∧ 0 ≤ d.at_ ∧ d.at_ ≤ n
theorem DOk.mono {m n : Nat} {d : Dk} (h : DOk m d) (l : m ≤ n) : DOk n d := ⟨h.1, h.2.1, by have := h.2.2; omega⟩
def dead (rest : AH) : AH := .ins "" [] :: .ins "" [] :: .ins "" [] :: rest
def b_deckA : SM := (sSeq (sAsg (eNew (e1 (e3 (eVar 0) (oPart none) (oPart (some (eC (.int 63)))) fun d lo hi ah => (listOf d ah).bind fun ds ah => lCut ds lo hi ah) sList)) (gSet 1)) (sRet (eDisp [((eC (.str "cells")), (eVar 1)), ((eC (.str "at")), (eC (.int 0))), ((eC (.str "sum")), (e2 (e2 (e1 (e1 (eVar 1) listOf) sSum) (eC (.int 2147483629)) oMod) (e2 (eC (.int 17)) (e1 (aCons (eVar 1) aNil) oLenA) oMul) oAdd))])))
def m_deckA : List D → AH → Res D := fnM 2 1 b_deckA
def dkA (ns : List Int) : Dk := ⟨ns, 0, ns.sum % 2147483629 + 17 * ns.length⟩
theorem optAll_dInt : ∀ ns : List Int, optAll dInt (ns.map D.int) = some ns
  | [] => rfl
  | n :: ns => by simp [optAll, optAll_dInt ns, dInt]
end HA
namespace HA
open PySem PySem.Spec PyProof.Rows L2
def mixB (seed at_ b : Int) : Int :=
  let n1 := (seed % 2147483629 + 7919 * at_ * at_ + 1) * 48271 % 2147483647
  let n2 := (n1 * n1 + 69621 * n1 + at_) % 2147483587
  n2 * (n2 / 5 + 39373) % 2147483579 / 64 % b
def hB (S : List D) (d : Dk) (rest : AH) : AH := .ro S :: .lst (d.cells.map D.int) :: .lst [.ref 1, .int d.sum, .int d.at_] :: rest
def b_tailB : SM := (sSeq (sAsg (e2 (e2 (e2 (e2 (e2 (eVar 2) (eC (.int 2147483629)) oMod) (e2 (e2 (eC (.int 7919)) (e2 (eVar 0) (eC (.int 2)) oIx) oMul) (e2 (eVar 0) (eC (.int 2)) oIx) oMul) oAdd) (eC (.int 1)) oAdd) (eC (.int 48271)) oMul) (eC (.int 2147483647)) oMod) (gSet 3)) (sSeq (sAsg (e2 (e2 (e2 (e2 (eVar 3) (eVar 3) oMul) (e2 (eC (.int 69621)) (eVar 3) oMul) oAdd) (e2 (eVar 0) (eC (.int 2)) oIx) oAdd) (eC (.int 2147483587)) oMod) (gSet 3)) (sRet (e2 (e2 (e2 (e2 (eVar 3) (e2 (e2 (eVar 3) (eC (.int 5)) oFdiv) (eC (.int 39373)) oAdd) oMul) (eC (.int 2147483579)) oMod) (eC (.int 64)) oFdiv) (eVar 1) oMod))))
def b_drawB : SM := (sSeq (sSetL (eVar 0) (eC (.int 2)) (e2 (e2 (eVar 0) (eC (.int 2)) oIx) (eC (.int 1)) oAdd)) (sSeq (sAsg (e2 (eVar 0) (eC (.int 1)) oIx) (gSet 2)) (sSeq (sIf (bNil true (e1 (e2 (eVar 0) (eC (.int 0)) oIx) listOf)) (sSeq (sAsg (eMt (e2 (eVar 0) (eC (.int 0)) oIx) aNil mPop) (gSet 2)) (sIf (e2 (eVar 2) (e2 (eC (.int 10)) (eC (.int 18)) oPow) cGe) (sSeq (sExpr (eMt (e2 (eVar 0) (eC (.int 0)) oIx) (aCons (e2 (eVar 2) (eVar 1) oFdiv) aNil) mAppend)) (sRet (e2 (eVar 2) (eVar 1) oMod))) sSkip)) sSkip) b_tailB)))
def m_drawB : List D → AH → Res D := fnM 4 2 b_drawB
theorem mixB_in {s a b : Int} (h : 0 < b) : 0 ≤ mixB s a b ∧ mixB s a b < b := by
  unfold mixB
  exact ⟨Int.emod_nonneg _ (by omega), Int.emod_lt_of_pos _ h⟩
section
variable {S : List D} {d : Dk} {rest : AH}
theorem hB_cells : oIx (.ref 2) (.int 0) (hB S d rest) = .ok (.ref 1) (hB S d rest) := oIx_lst (i := 0) (by rfl) rfl
theorem hB_sum : oIx (.ref 2) (.int 1) (hB S d rest) = .ok (.int d.sum) (hB S d rest) := oIx_lst (i := 1) (by rfl) rfl
theorem hB_at : oIx (.ref 2) (.int 2) (hB S d rest) = .ok (.int d.at_) (hB S d rest) := oIx_lst (i := 2) (by rfl) rfl
theorem hB_put {mo mv : EM D} {env : Env} {v : Int} (h1 : mv env (hB S d rest) = .ok (.int v) (hB S d rest)) (h2 : mo env (hB S d rest) = .ok (.ref 2) (hB S d rest)) : sSetL mo (eC (.int 2)) mv env (hB S d rest) = .nx env (hB S ⟨d.cells, v, d.sum⟩ rest) := by
  unfold sSetL
  rw [h1]
  simp only [thenS_ok]
  rw [h2]
  rfl
theorem hB_list : listOf (.ref 1) (hB S d rest) = .ok (d.cells.map D.int) (hB S d rest) := rfl
theorem hB_isList : isList (.ref 1) (hB S d rest) = true := rfl
theorem hB_pop {c : Int} {r : List Int} {a s : Int} : mPop (.ref 1) [] (hB S ⟨r ++ [c], a, s⟩ rest) = .ok (.int c) (hB S ⟨r, a, s⟩ rest) := by
  simp [mPop, hB]
theorem hB_app1 {v : Int} (h : d.cells.length < line) : mAppend (.ref 1) [.int v] (hB S d rest) = .ok .non (hB S ⟨d.cells ++ [v], d.at_, d.sum⟩ rest) := by
  simp [mAppend, hB, h]
theorem hB_fin {d' : Dk} (x : D) : fin (hB S d rest) x (hB S d' rest) = .ok x (hB S d' rest) := fin_len x rfl
end
theorem lcLoop_map {t : Itm} {tm : TM} {test : EM Bool} {elt : EM D} {vs : List Nat} {env : Env} {ah : AH} (ht : t.okIn ah = true) (f : D → D) : ∀ (ds acc : List D), acc.length + ds.length ≤ line → (∀ d ∈ ds, ∃ env1, tm d (wipeE env vs) ah = some env1 ∧ test env1 ah = .ok true ah ∧ elt env1 ah = .ok (f d) ah) → lcLoop t tm test elt vs env ds acc ah = .ok (acc ++ ds.map f) ah
  | [], acc, _, _ => by unfold lcLoop; rw [if_pos ht]; simp
  | d :: ds, acc, ha, h => by
    obtain ⟨env1, e1, e2, e3⟩ := h d (by simp)
    rw [List.length_cons] at ha
    unfold lcLoop
    rw [if_pos ⟨ht, by omega⟩, e1]
    simp only [e2, e3]
    rw [lcLoop_map ht f ds (acc ++ [f d]) (by rw [List.length_append, List.length_singleton]; omega) fun d hd => h d (List.mem_cons_of_mem _ hd)]
    simp
def b_deckB : SM := (sSeq (sAsg (eNew (e1 (e3 (eVar 0) (oPart none) (oPart (some (eC (.int 63)))) fun d lo hi ah => (listOf d ah).bind fun ds ah => lCut ds lo hi ah) lRevL)) (gSet 1)) (sRet (eNew (lLst (aCons (eVar 1) (aCons (e2 (e1 (lLc (e1 (eVar 1) iVal) (gSet 2) bYes (e2 (eVar 2) (eC (.int 2147483629)) oMod) [2]) sSum) (e2 (eC (.int 11)) (e1 (aCons (eVar 1) aNil) oLenA) oMul) oAdd) (aCons (eC (.int 0)) aNil)))))))
def m_deckB : List D → AH → Res D := fnM 3 1 b_deckB
def dkB (ns : List Int) : Dk := ⟨ns.reverse, 0, (ns.reverse.map fun c => c % 2147483629).sum + 11 * ns.length⟩
theorem dkB_ok {ns : List Int} (h : ns.length ≤ 63) : DOk 0 (dkB ns) := ⟨by show ns.reverse.length ≤ 64; simp; omega, Int.le_refl _, Int.le_refl _⟩
end HA
namespace HA
open PySem PySem.Spec PyProof.Rows L2
def b_deckC : SM := (sSeq (sAsg (eNew (e1 (e1 (e3 (eVar 0) (oPart none) (oPart (some (eC (.int 63)))) fun d lo hi ah => (listOf d ah).bind fun ds ah => lCut ds lo hi ah) sList) lRevL)) (gSet 1)) (sRet (eNew (lLst (aCons (eVar 1) (aCons (e2 (e1 (lLc (e1 (eVar 1) iVal) (gSet 2) bYes (e2 (eVar 2) (eC (.int 2147483629)) oMod) [2]) sSum) (e2 (eC (.int 11)) (e1 (aCons (eVar 1) aNil) oLenA) oMul) oAdd) (aCons (eC (.int 0)) aNil)))))))
def m_deckC : List D → AH → Res D := fnM 3 1 b_deckC
theorem deck_C {ns : List Int} (h : ns.length ≤ 63) : m_deckC [.ref 0] (ah0 ns) = .ok (.ref 2) (hB (ns.map D.int) (dkB ns) []) := by
  have c1 : cut (ns.map D.int) none (some 63) = ns.map D.int := by
    unfold cut
    rw [HT.sIx_none, show (63 : Int) = ((63 : Nat) : Int) from rfl, HT.sIx_nat, List.drop_zero, List.take_of_length_le (by simp; omega)]
  let R : List D := ns.reverse.map D.int
  let ah : AH := [.ro (ns.map D.int), .lst R]
  have md : ∀ (i : Int) (ah : AH), oMod (.int i) (.int 2147483629) ah = .ok (.int (i % 2147483629)) ah := fun i ah => oMod_int ah (by decide)
  have ml : ∀ (ah : AH), oMul (.int 11) (.int ns.length) ah = .ok (.int (11 * ns.length)) ah := fun ah => oMul_int ah (by decide) (by omega)
  have lp := lcLoop_map (t := ⟨R, [(1, R)]⟩) (tm := gSet 2) (test := bYes) (elt := e2 (eVar 2) (eC (.int 2147483629)) oMod) (vs := [2]) (env := [some (.ref 0), some (.ref 1), none]) (ah := ah) (by simp [Itm.okIn, listAt, ah]) (fun d => match d with
    | .int i => .int (i % 2147483629)
    | d => d) R [] (by simp [R, line]; omega) fun d hd => by
      obtain ⟨i, _, rfl⟩ := List.mem_map.mp hd
      exact ⟨_, rfl, rfl, by simp [wipeE, md]⟩
  have mp : (R.map fun d => match d with
    | .int i => .int (i % 2147483629)
    | d => d) = (ns.reverse.map fun c => c % 2147483629).map D.int := by simp [R, Function.comp_def]
  rw [mp, List.nil_append] at lp
  unfold m_deckC b_deckC
  rw [fnM_1]
  simp only [R, ah] at lp
  have od : optAll dInt (List.map (D.int ∘ fun c => c % 2147483629) ns.reverse) = some (ns.reverse.map fun c => c % 2147483629) := by rw [← List.map_map]; exact optAll_dInt _
  simp [sList, listOf, listAt, lCut, c1, lRevL, iVal, lp, sSum, od, oLenA, oLen, ml, line, ← List.map_reverse]
  unfold fin
  simp [sound, D.und, AObj.und, D.unds, hB, dkB]
end HA
namespace HV
open PySem PySem.Spec PyProof.Rows L2 HA
inductive U where
  | non | bl (b : Bool) | int (i : Int) | str (x : Str)
  | tup (us : List U)
  | lst (us : List U)
  | dK (ks : List Key) (us : List U)
  | dT (ks : List (List Key)) (us : List U)
  | ins (C : Str) (fs : List Str) (us : List U)
  | ref (n : Nat)
  | cst (v : V)
  | glo (x : Str)
  | xv (a d : Addr) (ks : List Str) (us : List U)
deriving Inhabited
section
variable (ok : Nat → Prop) (ah : AH)
mutual
def R : U → D → Prop
  | .non, d => d = .non
  | .bl b, d => d = .bl b
  | .int i, d => d = .int i
  | .str x, d => d = .str x
  | .cst v, d => d = .cst v
  | .glo v, d => d = .glo v
  | .xv a e ks us, d => ∃ ds, d = .xv a e ks ds ∧ Rs us ds
  | .ref n, d => d = .ref n
  | .tup us, d => ∃ ds, d = .tup ds ∧ Rs us ds
  | .lst us, d => ∃ n ds, d = .ref n ∧ ok n ∧ ah[n]? = some (.lst ds) ∧ Rs us ds
  | .dK ks us, d => ∃ n kvs, d = .ref n ∧ ok n ∧ ah[n]? = some (.dK kvs) ∧ kvs.map (·.1) = ks ∧ Rs us (kvs.map (·.2))
  | .dT ks us, d => ∃ n kvs, d = .ref n ∧ ok n ∧ ah[n]? = some (.dT kvs) ∧ kvs.map (·.1) = ks ∧ Rs us (kvs.map (·.2))
  | .ins C fs us, d => ∃ n kvs, d = .ref n ∧ ok n ∧ ah[n]? = some (.ins C kvs) ∧ kvs.map (·.1) = fs ∧ Rs us (kvs.map (·.2))
def Rs : List U → List D → Prop
  | [], ds => ds = []
  | u :: us, ds => ∃ d es, ds = d :: es ∧ R u d ∧ Rs us es
end
end
def Sta (ok : Nat → Prop) (ah ah' : AH) : Prop := ∀ n o, ok n → ah[n]? = some o → ah'[n]? = some o
section
variable {ok ok' : Nat → Prop} {ah ah' : AH}
mutual
theorem R.mono (h1 : ∀ n, ok n → ok' n) (h2 : Sta ok ah ah') : ∀ (u : U) (d : D), R ok ah u d → R ok' ah' u d
  | .non, _, h => by simp only [R] at h ⊢; exact h
  | .bl b, _, h => by simp only [R] at h ⊢; exact h
  | .int b, _, h => by simp only [R] at h ⊢; exact h
  | .str b, _, h => by simp only [R] at h ⊢; exact h
  | .cst b, _, h => by simp only [R] at h ⊢; exact h
  | .glo b, _, h => by simp only [R] at h ⊢; exact h
  | .xv a e ks us, _, h => by simp only [R] at h ⊢; obtain ⟨ds, e, r⟩ := h; exact ⟨ds, e, Rs.mono h1 h2 us ds r⟩
  | .ref b, _, h => by simp only [R] at h ⊢; exact h
  | .tup us, _, h => by simp only [R] at h ⊢; obtain ⟨ds, e, r⟩ := h; exact ⟨ds, e, Rs.mono h1 h2 us ds r⟩
  | .lst us, _, h => by simp only [R] at h ⊢; obtain ⟨n, ds, e, o, q, r⟩ := h; exact ⟨n, ds, e, h1 n o, h2 n _ o q, Rs.mono h1 h2 us ds r⟩
  | .dK ks us, _, h => by simp only [R] at h ⊢; obtain ⟨n, ds, e, o, q, z, r⟩ := h; exact ⟨n, ds, e, h1 n o, h2 n _ o q, z, Rs.mono h1 h2 us _ r⟩
  | .dT ks us, _, h => by simp only [R] at h ⊢; obtain ⟨n, ds, e, o, q, z, r⟩ := h; exact ⟨n, ds, e, h1 n o, h2 n _ o q, z, Rs.mono h1 h2 us _ r⟩
  | .ins C ks us, _, h => by simp only [R] at h ⊢; obtain ⟨n, ds, e, o, q, z, r⟩ := h; exact ⟨n, ds, e, h1 n o, h2 n _ o q, z, Rs.mono h1 h2 us _ r⟩
theorem Rs.mono (h1 : ∀ n, ok n → ok' n) (h2 : Sta ok ah ah') : ∀ (us : List U) (ds : List D), Rs ok ah us ds → Rs ok' ah' us ds
  | [], _, h => by simp only [Rs] at h ⊢; exact h
  | u :: us, _, h => by simp only [Rs] at h ⊢; obtain ⟨d, es, e, q, r⟩ := h; exact ⟨d, es, e, R.mono h1 h2 u d q, Rs.mono h1 h2 us es r⟩
end
mutual
def U.flat : U → Bool
  | .tup us => U.flats us
  | .xv _ _ _ us => U.flats us
  | .lst _ | .dK _ _ | .dT _ _ | .ins _ _ _ => false
  | _ => true
def U.flats : List U → Bool
  | [] => true
  | u :: us => U.flat u && U.flats us
end
mutual
theorem R.flat : ∀ (u : U) (d : D), u.flat = true → R ok ah u d → R ok' ah' u d
  | .non, _, _, h => by simp only [R] at h ⊢; exact h
  | .bl b, _, _, h => by simp only [R] at h ⊢; exact h
  | .int b, _, _, h => by simp only [R] at h ⊢; exact h
  | .str b, _, _, h => by simp only [R] at h ⊢; exact h
  | .cst b, _, _, h => by simp only [R] at h ⊢; exact h
  | .glo b, _, _, h => by simp only [R] at h ⊢; exact h
  | .xv a e ks us, _, f, h => by simp only [R] at h ⊢; simp only [U.flat] at f; obtain ⟨ds, e, r⟩ := h; exact ⟨ds, e, Rs.flat us ds f r⟩
  | .ref b, _, _, h => by simp only [R] at h ⊢; exact h
  | .tup us, _, f, h => by simp only [R] at h ⊢; simp only [U.flat] at f; obtain ⟨ds, e, r⟩ := h; exact ⟨ds, e, Rs.flat us ds f r⟩
  | .lst us, _, f, h => by simp [U.flat] at f
  | .dK ks us, _, f, h => by simp [U.flat] at f
  | .dT ks us, _, f, h => by simp [U.flat] at f
  | .ins C ks us, _, f, h => by simp [U.flat] at f
theorem Rs.flat : ∀ (us : List U) (ds : List D), U.flats us = true → Rs ok ah us ds → Rs ok' ah' us ds
  | [], _, _, h => by simp only [Rs] at h ⊢; exact h
  | u :: us, _, f, h => by
    simp only [Rs] at h ⊢
    simp only [U.flats, Bool.and_eq_true] at f
    obtain ⟨d, es, e, q, r⟩ := h
    exact ⟨d, es, e, R.flat u d f.1 q, Rs.flat us es f.2 r⟩
end
theorem Rs.nil : Rs ok ah [] [] := by simp only [Rs]
theorem Rs.cons {u : U} {d : D} {us : List U} {ds : List D} (h : R ok ah u d) (t : Rs ok ah us ds) : Rs ok ah (u :: us) (d :: ds) := by simp only [Rs]; exact ⟨d, ds, rfl, h, t⟩
theorem Rs.len : ∀ {us : List U} {ds : List D}, Rs ok ah us ds → us.length = ds.length
  | [], _, h => by simp only [Rs] at h; subst h; rfl
  | u :: us, _, h => by simp only [Rs] at h; obtain ⟨d, es, rfl, q, r⟩ := h; simp [Rs.len r]
theorem Rs.app : ∀ {us vs : List U} {ds es : List D}, Rs ok ah us ds → Rs ok ah vs es → Rs ok ah (us ++ vs) (ds ++ es)
  | [], _, _, _, h, t => by simp only [Rs] at h; subst h; exact t
  | u :: us, _, _, _, h, t => by simp only [Rs] at h; obtain ⟨d, es, rfl, q, r⟩ := h; exact Rs.cons q (Rs.app r t)
theorem Rs.get : ∀ {us : List U} {ds : List D} {i : Nat} {u : U}, Rs ok ah us ds → us[i]? = some u → ∃ d, ds[i]? = some d ∧ R ok ah u d
  | [], _, _, _, _, e => by simp at e
  | u :: us, _, i, x, h, e => by
    simp only [Rs] at h
    obtain ⟨d, es, rfl, q, r⟩ := h
    cases i with
    | zero => simp at e; subst e; exact ⟨d, rfl, q⟩
    | succ i => simpa using Rs.get (i := i) r (by simpa using e)
theorem Rs.take : ∀ {us : List U} {ds : List D} (n : Nat), Rs ok ah us ds → Rs ok ah (us.take n) (ds.take n)
  | _, _, 0, _ => by simpa using Rs.nil
  | [], _, n + 1, h => by simp only [Rs] at h; subst h; simpa using Rs.nil
  | u :: us, _, n + 1, h => by simp only [Rs] at h; obtain ⟨d, es, rfl, q, r⟩ := h; exact Rs.cons q (Rs.take n r)
theorem Rs.drop : ∀ {us : List U} {ds : List D} (n : Nat), Rs ok ah us ds → Rs ok ah (us.drop n) (ds.drop n)
  | _, _, 0, h => h
  | [], _, n + 1, h => by simp only [Rs] at h; subst h; simpa using Rs.nil
  | u :: us, _, n + 1, h => by simp only [Rs] at h; obtain ⟨d, es, rfl, q, r⟩ := h; exact Rs.drop n r
theorem Rs.set : ∀ {us : List U} {ds : List D} (n : Nat) {u : U} {d : D}, Rs ok ah us ds → R ok ah u d → Rs ok ah (us.set n u) (ds.set n d)
  | [], _, n, _, _, h, _ => by simp only [Rs] at h; subst h; simpa using Rs.nil
  | u :: us, _, 0, _, _, h, x => by simp only [Rs] at h; obtain ⟨d, es, rfl, q, r⟩ := h; exact Rs.cons x r
  | u :: us, _, n + 1, _, _, h, x => by simp only [Rs] at h; obtain ⟨d, es, rfl, q, r⟩ := h; exact Rs.cons q (Rs.set n r x)
theorem Rs.eraseIdx : ∀ {us : List U} {ds : List D} (n : Nat), Rs ok ah us ds → Rs ok ah (us.eraseIdx n) (ds.eraseIdx n)
  | [], _, n, h => by simp only [Rs] at h; subst h; simpa using Rs.nil
  | u :: us, _, 0, h => by simp only [Rs] at h; obtain ⟨d, es, rfl, q, r⟩ := h; exact r
  | u :: us, _, n + 1, h => by simp only [Rs] at h; obtain ⟨d, es, rfl, q, r⟩ := h; exact Rs.cons q (Rs.eraseIdx n r)
theorem Rs.dropLast {us : List U} {ds : List D} (h : Rs ok ah us ds) : Rs ok ah us.dropLast ds.dropLast := by
  rw [List.dropLast_eq_take, List.dropLast_eq_take, ← h.len]; exact h.take _
theorem Rs.rep {us : List U} {ds : List D} (h : Rs ok ah us ds) : ∀ n : Nat, Rs ok ah (List.replicate n us).flatten (List.replicate n ds).flatten
  | 0 => by simpa using Rs.nil
  | n + 1 => by rw [List.replicate_succ, List.replicate_succ, List.flatten_cons, List.flatten_cons]; exact h.app (Rs.rep h n)
theorem Rs.ints : ∀ {ns : List Int} {ds : List D}, Rs ok ah (ns.map U.int) ds → ds = ns.map D.int
  | [], _, h => by simp only [List.map_nil, Rs] at h; subst h; rfl
  | n :: ns, _, h => by simp only [List.map_cons, Rs, R] at h; obtain ⟨d, es, rfl, rfl, r⟩ := h; rw [Rs.ints r]; rfl
theorem Rs.of_ints : ∀ (ns : List Int), Rs ok ah (ns.map U.int) (ns.map D.int)
  | [] => Rs.nil
  | n :: ns => Rs.cons (by simp only [R]) (Rs.of_ints ns)
end
def OR (ok : Nat → Prop) (ah : AH) : U → AObj → Prop
  | .lst us, .lst ds => Rs ok ah us ds
  | .dK ks us, .dK kvs => kvs.map (·.1) = ks ∧ Rs ok ah us (kvs.map (·.2))
  | .dT ks us, .dT kvs => kvs.map (·.1) = ks ∧ Rs ok ah us (kvs.map (·.2))
  | .ins C fs us, .ins C' kvs => C = C' ∧ kvs.map (·.1) = fs ∧ Rs ok ah us (kvs.map (·.2))
  | _, _ => False
section
variable {ok ok' : Nat → Prop} {ah ah' : AH}
theorem OR.mono (h1 : ∀ n, ok n → ok' n) (h2 : Sta ok ah ah') {u : U} {o : AObj} (h : OR ok ah u o) : OR ok' ah' u o := by
  unfold OR at h ⊢
  split at h
  · exact Rs.mono h1 h2 _ _ h
  · exact ⟨h.1, Rs.mono h1 h2 _ _ h.2⟩
  · exact ⟨h.1, Rs.mono h1 h2 _ _ h.2⟩
  · exact ⟨h.1, h.2.1, Rs.mono h1 h2 _ _ h.2.2⟩
  · exact h
theorem OR.to {u : U} {o : AObj} {n : Nat} (h : OR ok ah u o) (hn : ok n) (e : ah[n]? = some o) : R ok ah u (.ref n) := by
  unfold OR at h
  split at h
  · simp only [R]; exact ⟨n, _, rfl, hn, e, h⟩
  · simp only [R]; exact ⟨n, _, rfl, hn, e, h⟩
  · simp only [R]; exact ⟨n, _, rfl, hn, e, h⟩
  · obtain ⟨rfl, h⟩ := h; simp only [R]; exact ⟨n, _, rfl, hn, e, h⟩
  · exact h.elim
end
structure Grow (ah ah' : AH) : Prop where
  len : ah.length ≤ ah'.length
  same : ∀ n, 3 ≤ n → n < ah.length → ah'[n]? = ah[n]?
theorem Grow.refl {ah : AH} : Grow ah ah := ⟨Nat.le_refl _, fun _ _ _ => rfl⟩
theorem Grow.trans {a b c : AH} (h : Grow a b) (k : Grow b c) : Grow a c := ⟨Nat.le_trans h.len k.len, fun n h3 hn => (k.same n h3 (Nat.lt_of_lt_of_le hn h.len)).trans (h.same n h3 hn)⟩
theorem Grow.app {ah x : AH} : Grow ah (ah ++ x) := ⟨by simp, fun n _ hn => List.getElem?_append_left hn⟩
structure OkF (ok : Nat → Prop) (ah : AH) : Prop where
  three : ∀ n, ok n → 3 ≤ n
  fresh : ∀ n, ah.length ≤ n → ok n
theorem Grow.sta {ok : Nat → Prop} {ah ah' : AH} (g : Grow ah ah') (h : OkF ok ah) : Sta ok ah ah' := fun n o hn e => by
  rw [g.same n (h.three n hn) (List.getElem?_eq_some_iff.mp e).1]; exact e
theorem OkF.grow {ok : Nat → Prop} {ah ah' : AH} (h : OkF ok ah) (g : Grow ah ah') : OkF ok ah' := ⟨h.three, fun n hn => h.fresh n (Nat.le_trans g.len hn)⟩
theorem R.grow {ok : Nat → Prop} {ah ah' : AH} {u : U} {d : D} (h : R ok ah u d) (o : OkF ok ah) (g : Grow ah ah') : R ok ah' u d := R.mono (fun _ h => h) (g.sta o) u d h
theorem Rs.grow {ok : Nat → Prop} {ah ah' : AH} {u : List U} {d : List D} (h : Rs ok ah u d) (o : OkF ok ah) (g : Grow ah ah') : Rs ok ah' u d := Rs.mono (fun _ h => h) (g.sta o) u d h
structure Dks where
  at' : Nat → AH → Prop
  len : ∀ {N ah}, at' N ah → 3 ≤ ah.length
  stay : ∀ {N ah ah'}, at' N ah → 3 ≤ ah'.length → (∀ n, n < 3 → ah'[n]? = ah[n]?) → at' N ah'
  mono : ∀ {N M ah}, at' N ah → N ≤ M → at' M ah
def LIM : Nat := 2 ^ 5000
def cb (c : Nat) : Nat := if c = 0 then 0 else 2 ^ c
def sq (a b : Nat) : Nat := if a = 0 then b else if b = 0 then a else max a b + 1
def lp (c : Nat) : Nat := if c = 0 then 0 else c + 24
theorem cb_sq (a b : Nat) : cb a + cb b ≤ cb (sq a b) := by
  unfold cb sq
  by_cases ha : a = 0
  · simp [ha]
  · by_cases hb : b = 0
    · simp [ha, hb]
    · simp only [ha, hb, if_false, Nat.add_eq_zero_iff, Nat.one_ne_zero, and_false]
      have h1 : 2 ^ a ≤ 2 ^ max a b := Nat.pow_le_pow_right (by decide) (Nat.le_max_left _ _)
      have h2 : 2 ^ b ≤ 2 ^ max a b := Nat.pow_le_pow_right (by decide) (Nat.le_max_right _ _)
      rw [Nat.pow_succ]
      omega
theorem cb_left (a b : Nat) : cb a ≤ cb (sq a b) := Nat.le_trans (Nat.le_add_right _ _) (cb_sq a b)
theorem cb_mono {a b : Nat} (h : a ≤ b) : cb a ≤ cb b := by
  unfold cb
  by_cases ha : a = 0
  · simp [ha]
  · rw [if_neg ha, if_neg (by omega)]
    exact Nat.pow_le_pow_right (by decide) h
theorem cb_lp (c n : Nat) (h : n ≤ 2 ^ 24) : n * cb c ≤ cb (lp c) := by
  unfold cb lp
  by_cases ha : c = 0
  · simp [ha]
  · simp only [ha, if_false, Nat.add_eq_zero_iff, false_and]
    rw [Nat.pow_add, Nat.mul_comm (2 ^ c)]
    exact Nat.mul_le_mul_right _ h
structure Rl (α β : Type) where
  r : (Nat → Prop) → AH → α → β → Prop
  mono : ∀ {ok ok' : Nat → Prop} {ah ah' : AH} {a : α} {b : β}, (∀ n, ok n → ok' n) → Sta ok ah ah' → r ok ah a b → r ok' ah' a b
def RU : Rl U D := ⟨fun ok ah => R ok ah, fun h1 h2 => R.mono h1 h2 _ _⟩
def RUs : Rl (List U) (List D) := ⟨fun ok ah => Rs ok ah, fun h1 h2 => Rs.mono h1 h2 _ _⟩
def REq (α : Type) : Rl α α := ⟨fun _ _ a b => a = b, fun _ _ h => h⟩
theorem Rl.grow {α β : Type} (Q : Rl α β) {ok : Nat → Prop} {ah ah' : AH} {a : α} {b : β} (h : Q.r ok ah a b) (o : OkF ok ah) (g : Grow ah ah') : Q.r ok ah' a b := Q.mono (fun _ h => h) (g.sta o) h
abbrev UEnv := List (Option U)
abbrev EF := Option (List Str × List U)
abbrev ExK := Str → EF → Prop
abbrev VE (α : Type) := UEnv → ExK → (α → Prop) → Prop
def RX (ok : Nat → Prop) (ah : AH) : EF → Option (List (Str × D)) → Prop
  | none, fs => fs = none
  | some (ks, us), fs => ∃ kvs, fs = some kvs ∧ kvs.map (·.1) = ks ∧ Rs ok ah us (kvs.map (·.2))
theorem RX.mono {ok ok' : Nat → Prop} {ah ah' : AH} (h1 : ∀ n, ok n → ok' n) (h2 : Sta ok ah ah') {f : EF} {fs : Option (List (Str × D))} (h : RX ok ah f fs) : RX ok' ah' f fs := by
  match f, h with
  | none, h => exact h
  | some (ks, us), ⟨kvs, e, z, r⟩ => exact ⟨kvs, e, z, Rs.mono h1 h2 _ _ r⟩
structure EnvR (ok : Nat → Prop) (ah : AH) (Γ : UEnv) (env : HA.Env) : Prop where
  len : env.length = Γ.length
  at' : ∀ (i : Nat) (u : U), Γ[i]? = some (some u) → ∃ d, env[i]? = some (some d) ∧ R ok ah u d
theorem EnvR.grow {ok : Nat → Prop} {ah ah' : AH} {Γ : UEnv} {env : HA.Env} (h : EnvR ok ah Γ env) (o : OkF ok ah) (g : Grow ah ah') : EnvR ok ah' Γ env :=
  ⟨h.len, fun i u e => let ⟨d, e1, r⟩ := h.at' i u e; ⟨d, e1, r.grow o g⟩⟩
section
variable (K : Dks) {α β γ δ α' β' γ' δ' : Type}
def PR (ok : Nat → Prop) (ah : AH) (N : Nat) (Q : Rl α β) (X : ExK) (k : α → Prop) : Res β → Prop
  | .ok b ah' => ∃ a, k a ∧ Q.r ok ah' a b ∧ Grow ah ah' ∧ K.at' N ah'
  | .exn c fs ah' => ∃ f, X c f ∧ RX ok ah' f fs ∧ Grow ah ah' ∧ K.at' N ah'
  | .stuck => False
variable {K}
theorem PR.bind {ok : Nat → Prop} {ah : AH} {N M : Nat} {Q : Rl α β} {Q' : Rl γ δ} {X : ExK} {k : α → Prop} {k' : γ → Prop} {r : Res β} {f : β → AH → Res δ}
    (h : PR K ok ah N Q X k r) (hN : N ≤ M) (hf : ∀ a b ah', k a → Q.r ok ah' a b → Grow ah ah' → K.at' N ah' → PR K ok ah' M Q' X k' (f b ah')) : PR K ok ah M Q' X k' (r.bind f) := by
  cases r with
  | ok b ah' =>
    obtain ⟨a, ka, q, g, kk⟩ := h
    have := hf a b ah' ka q g kk
    show PR K ok ah M Q' X k' (f b ah')
    cases e : f b ah' with
    | ok d ah2 => rw [e] at this; obtain ⟨c, kc, q2, g2, k2⟩ := this; exact ⟨c, kc, q2, g.trans g2, k2⟩
    | exn c fs ah2 => rw [e] at this; obtain ⟨c, kc, q2, g2, k2⟩ := this; exact ⟨c, kc, q2, g.trans g2, k2⟩
    | stuck => rw [e] at this; exact this
  | exn c fs ah' =>
    obtain ⟨f, x, q, g, kk⟩ := h
    exact ⟨f, x, q, g, K.mono kk hN⟩
  | stuck => exact h
variable (K)
structure LE (Q : Rl α β) (c : Nat) (m : EM β) (p : VE α) : Prop where
  to : ∀ {ok : Nat → Prop} {Γ : UEnv} {env : HA.Env} {ah : AH} {N : Nat} {X : ExK} {k : α → Prop}, OkF ok ah → EnvR ok ah Γ env → K.at' N ah → N + cb c ≤ LIM → p Γ X k → PR K ok ah (N + cb c) Q X k (m env ah)
structure LO1 (Q : Rl α β) (Q' : Rl γ δ) (c : Nat) (f : β → AH → Res δ) (p : α → ExK → (γ → Prop) → Prop) : Prop where
  to : ∀ {ok : Nat → Prop} {ah : AH} {N : Nat} {X : ExK} {k : γ → Prop} {a : α} {b : β}, OkF ok ah → Q.r ok ah a b → K.at' N ah → N + cb c ≤ LIM → p a X k → PR K ok ah (N + cb c) Q' X k (f b ah)
structure LO2 (Q : Rl α β) (Q1 : Rl α' β') (Q' : Rl γ δ) (f : β → β' → AH → Res δ) (p : α → α' → ExK → (γ → Prop) → Prop) : Prop where
  to : ∀ {ok : Nat → Prop} {ah : AH} {N : Nat} {X : ExK} {k : γ → Prop} {a : α} {b : β} {a' : α'} {b' : β'}, OkF ok ah → Q.r ok ah a b → Q1.r ok ah a' b' → K.at' N ah → p a a' X k → PR K ok ah N Q' X k (f b b' ah)
structure LO3 (Q : Rl α β) (Q1 : Rl α' β') (Q2 : Rl γ' δ') (Q' : Rl γ δ) (f : β → β' → δ' → AH → Res δ) (p : α → α' → γ' → ExK → (γ → Prop) → Prop) : Prop where
  to : ∀ {ok : Nat → Prop} {ah : AH} {N : Nat} {X : ExK} {k : γ → Prop} {a : α} {b : β} {a' : α'} {b' : β'} {a2 : γ'} {b2 : δ'}, OkF ok ah → Q.r ok ah a b → Q1.r ok ah a' b' → Q2.r ok ah a2 b2 → K.at' N ah → p a a' a2 X k → PR K ok ah N Q' X k (f b b' b2 ah)
def v1 (pa : VE α) (f : α → ExK → (γ → Prop) → Prop) : VE γ := fun Γ X k => pa Γ X fun a => f a X k
def v2 (pa : VE α) (pb : VE α') (f : α → α' → ExK → (γ → Prop) → Prop) : VE γ := fun Γ X k => pa Γ X fun a => pb Γ X fun b => f a b X k
def v3 (pa : VE α) (pb : VE α') (pc : VE γ') (f : α → α' → γ' → ExK → (γ → Prop) → Prop) : VE γ := fun Γ X k => pa Γ X fun a => pb Γ X fun b => pc Γ X fun c => f a b c X k
variable {K}
theorem LE.weak {Q : Rl α β} {c c' : Nat} {m : EM β} {p : VE α} (h : LE K Q c m p) (hc : cb c ≤ cb c') : LE K Q c' m p := ⟨fun o e k l x => by
  have := h.to o e k (by omega) x
  revert this
  unfold PR
  split
  · exact fun ⟨a, h1, h2, h3, h4⟩ => ⟨a, h1, h2, h3, K.mono h4 (by omega)⟩
  · exact fun ⟨a, h1, h2, h3, h4⟩ => ⟨a, h1, h2, h3, K.mono h4 (by omega)⟩
  · exact fun h => h⟩
theorem le_1 {Q : Rl α β} {Q' : Rl γ δ} {c c' : Nat} {m : EM β} {p : VE α} {f : β → AH → Res δ} {pf : α → ExK → (γ → Prop) → Prop} (h : LE K Q c m p) (hf : LO1 K Q Q' c' f pf) : LE K Q' (sq c c') (e1 m f) (v1 p pf) := ⟨fun {ok Γ env ah N X k} o e kk l x => by
  have s := cb_sq c c'
  refine PR.bind (h.to o e kk (by omega) x) (Nat.add_le_add_left (cb_left c c') N) fun a b ah' ka q g k2 => ?_
  have := hf.to (o.grow g) q k2 (by omega) ka
  refine (?_ : ∀ M, _ ≤ M → PR K ok ah' M Q' X k (f b ah')) _ (show N + cb c + cb c' ≤ N + cb (sq c c') by omega)
  intro M hM
  revert this
  unfold PR
  split
  · exact fun ⟨a, h1, h2, h3, h4⟩ => ⟨a, h1, h2, h3, K.mono h4 hM⟩
  · exact fun ⟨a, h1, h2, h3, h4⟩ => ⟨a, h1, h2, h3, K.mono h4 hM⟩
  · exact fun h => h⟩
theorem PR.le {ok : Nat → Prop} {ah : AH} {N M : Nat} {Q : Rl α β} {X : ExK} {k : α → Prop} {r : Res β} (h : PR K ok ah N Q X k r) (hM : N ≤ M) : PR K ok ah M Q X k r := by
  revert h
  unfold PR
  split
  · exact fun ⟨a, h1, h2, h3, h4⟩ => ⟨a, h1, h2, h3, K.mono h4 hM⟩
  · exact fun ⟨a, h1, h2, h3, h4⟩ => ⟨a, h1, h2, h3, K.mono h4 hM⟩
  · exact fun h => h
theorem le_2 {Q : Rl α β} {Q1 : Rl α' β'} {Q' : Rl γ δ} {c c' : Nat} {m : EM β} {p : VE α} {m' : EM β'} {p' : VE α'} {f : β → β' → AH → Res δ} {pf : α → α' → ExK → (γ → Prop) → Prop} (h : LE K Q c m p) (h' : LE K Q1 c' m' p') (hf : LO2 K Q Q1 Q' f pf) : LE K Q' (sq c c') (e2 m m' f) (v2 p p' pf) := ⟨fun {ok Γ env ah N X k} o e kk l x => by
  have s := cb_sq c c'
  refine PR.bind (h.to o e kk (by omega) x) (Nat.add_le_add_left (cb_left c c') N) fun a b ah' ka q g k2 => ?_
  refine PR.bind ((h'.to (o.grow g) (e.grow o g) k2 (by omega) ka).le (M := N + cb (sq c c')) (by omega)) (Nat.le_refl _) fun a' b' ah2 ka2 q2 g2 k3 => ?_
  exact hf.to ((o.grow g).grow g2) (Q.grow q (o.grow g) g2) q2 k3 ka2⟩
theorem le_3 {Q : Rl α β} {Q1 : Rl α' β'} {Q2 : Rl γ' δ'} {Q' : Rl γ δ} {c c' c2 : Nat} {m : EM β} {p : VE α} {m' : EM β'} {p' : VE α'} {m2 : EM δ'} {p2 : VE γ'} {f : β → β' → δ' → AH → Res δ} {pf : α → α' → γ' → ExK → (γ → Prop) → Prop} (h : LE K Q c m p) (h' : LE K Q1 c' m' p') (h2 : LE K Q2 c2 m2 p2) (hf : LO3 K Q Q1 Q2 Q' f pf) : LE K Q' (sq c (sq c' c2)) (e3 m m' m2 f) (v3 p p' p2 pf) := ⟨fun {ok Γ env ah N X k} o e kk l x => by
  have s := cb_sq c (sq c' c2)
  have s' := cb_sq c' c2
  refine PR.bind (h.to o e kk (by omega) x) (Nat.add_le_add_left (cb_left c _) N) fun a b ah' ka q g k2 => ?_
  refine PR.bind (h'.to (o.grow g) (e.grow o g) k2 (by omega) ka) (by omega) fun a' b' ah2 ka2 q2 g2 k3 => ?_
  refine PR.bind ((h2.to ((o.grow g).grow g2) ((e.grow o g).grow (o.grow g) g2) k3 (by omega) ka2).le (M := N + cb (sq c (sq c' c2))) (by omega)) (Nat.le_refl _) fun a3 b3 ah3 ka3 q3 g3 k4 => ?_
  exact hf.to (((o.grow g).grow g2).grow g3) (Q.grow (Q.grow q (o.grow g) g2) ((o.grow g).grow g2) g3) (Q1.grow q2 ((o.grow g).grow g2) g3) q3 k4 ka3⟩
end
end HV
namespace HV
open PySem PySem.Spec PyProof.Rows L2 HA
section
variable {K : Dks} {α β γ δ α' β' γ' δ' : Type}
theorem PR.okI {ok : Nat → Prop} {ah : AH} {N : Nat} {Q : Rl α β} {X : ExK} {k : α → Prop} {a : α} {b : β} (hk : k a) (q : Q.r ok ah a b) (kk : K.at' N ah) : PR K ok ah N Q X k (.ok b ah) := ⟨a, hk, q, Grow.refl, kk⟩
theorem Dks.app {N : Nat} {ah : AH} (x : AH) (h : K.at' N ah) : K.at' N (ah ++ x) := by
  have l := K.len h
  exact K.stay h (by simp; omega) fun n hn => List.getElem?_append_left (by omega)
theorem PR.newI {ok : Nat → Prop} {ah x : AH} {N : Nat} {Q : Rl α β} {X : ExK} {k : α → Prop} {a : α} {b : β} (hk : k a) (q : Q.r ok (ah ++ x) a b) (kk : K.at' N ah) : PR K ok ah N Q X k (.ok b (ah ++ x)) := ⟨a, hk, q, Grow.app, K.app x kk⟩
theorem cb_zero : cb 0 = 0 := rfl
def vVar (i : Nat) : VE U := fun Γ _ k => match Γ[i]? with
  | some (some u) => k u
  | _ => False
theorem le_var (i : Nat) : LE K RU 0 (eVar i) (vVar i) := ⟨fun {ok Γ env ah N X k} o e kk l x => by
  unfold vVar at x
  split at x
  · rename_i u hu
    obtain ⟨d, h1, h2⟩ := e.at' i u hu
    unfold eVar
    rw [h1]
    exact .okI x h2 kk
  · exact x.elim⟩
mutual
def toU : D → U
  | .non => .non
  | .bl b => .bl b
  | .int i => .int i
  | .str x => .str x
  | .ref n => .ref n
  | .cst v => .cst v
  | .glo v => .glo v
  | .xv a e ks ds => .xv a e ks (toUs ds)
  | .tup ds => .tup (toUs ds)
def toUs : List D → List U
  | [] => []
  | d :: ds => toU d :: toUs ds
end
mutual
theorem R_toU {ok : Nat → Prop} {ah : AH} : ∀ d : D, R ok ah (toU d) d
  | .non => by simp only [toU, R]
  | .bl b => by simp only [toU, R]
  | .int i => by simp only [toU, R]
  | .str x => by simp only [toU, R]
  | .ref n => by simp only [toU, R]
  | .cst v => by simp only [toU, R]
  | .glo v => by simp only [toU, R]
  | .xv a e ks ds => by simp only [toU, R]; exact ⟨ds, rfl, Rs_toU ds⟩
  | .tup ds => by simp only [toU, R]; exact ⟨ds, rfl, Rs_toU ds⟩
theorem Rs_toU {ok : Nat → Prop} {ah : AH} : ∀ ds : List D, Rs ok ah (toUs ds) ds
  | [] => by simp only [toUs, Rs]
  | d :: ds => by simp only [toUs, Rs]; exact ⟨d, ds, rfl, R_toU d, Rs_toU ds⟩
end
def vC (d : D) : VE U := fun _ _ k => k (toU d)
theorem le_c (d : D) : LE K RU 0 (eC d) (vC d) := ⟨fun o e kk l x => .okI x (R_toU d) kk⟩
def vaNil : VE (List U) := fun _ _ k => k []
def vaCons (p : VE U) (r : VE (List U)) : VE (List U) := fun Γ X k => p Γ X fun u => r Γ X fun us => k (u :: us)
theorem le_anil : LE K RUs 0 aNil vaNil := ⟨fun {ok Γ env ah N X k} o e kk l x => .okI x (Rs.nil (ok := ok) (ah := ah)) kk⟩
theorem le_acons {c c' : Nat} {m : EM D} {p : VE U} {r : EM (List D)} {pr : VE (List U)} (h : LE K RU c m p) (h' : LE K RUs c' r pr) : LE K RUs (sq c c') (aCons m r) (vaCons p pr) :=
  le_2 (f := fun (x : D) (xs : List D) ah => Res.ok (x :: xs) ah) (pf := fun u us _ k => k (u :: us)) h h' ⟨fun o q q' kk x => .okI x (Rs.cons q q') kk⟩
def vTup (p : VE (List U)) : VE U := v1 p fun us _ k => us.length ≤ line ∧ k (.tup us)
theorem le_tup {c : Nat} {m : EM (List D)} {p : VE (List U)} (h : LE K RUs c m p) : LE K RU (sq c 0) (eTup m) (vTup p) := le_1 h ⟨fun {ok ah N X k a b} o q kk l x => by
  rw [if_pos (by rw [← Rs.len q]; exact x.1)]
  exact .okI x.2 (show R ok ah (.tup a) (.tup b) by simp only [R]; exact ⟨b, rfl, q⟩) kk⟩
def vLst (p : VE (List U)) : VE (List U) := v1 p fun us _ k => us.length ≤ line ∧ k us
theorem le_lst {c : Nat} {m : EM (List D)} {p : VE (List U)} (h : LE K RUs c m p) : LE K RUs (sq c 0) (lLst m) (vLst p) := le_1 h ⟨fun {ok ah N X k a b} o q kk l x => by
  rw [if_pos (by rw [← Rs.len q]; exact x.1)]
  exact .okI x.2 q kk⟩
def vNew (p : VE (List U)) : VE U := v1 p fun us _ k => k (.lst us)
theorem le_new {c : Nat} {m : EM (List D)} {p : VE (List U)} (h : LE K RUs c m p) : LE K RU (sq c 0) (eNew m) (vNew p) := le_1 h ⟨fun {ok ah N X k a b} o q kk l x => by
  refine .newI x ?_ kk
  show R ok _ (.lst a) (.ref _)
  simp only [R]
  exact ⟨ah.length, b, rfl, o.fresh _ (Nat.le_refl _), by simp, Rs.grow q o Grow.app⟩⟩
def vB (p : VE Bool) : VE U := fun Γ X k => p Γ X fun b => k (.bl b)
theorem le_B {c : Nat} {m : EM Bool} {p : VE Bool} (h : LE K (REq Bool) c m p) : LE K RU (sq c 0) (eB m) (vB p) :=
  le_1 (f := fun b ah => Res.ok (D.bl b) ah) (pf := fun b _ k => k (U.bl b)) (Q' := RU) (c' := 0) h ⟨fun {ok ah N X k a b} o q kk l x => .okI x (by cases q; show R ok ah _ _; simp only [R]) kk⟩
theorem PR.ite {ok : Nat → Prop} {ah : AH} {N : Nat} {Q : Rl α β} {X : ExK} {k : α → Prop} {a b : Res β} {t : Bool} {x y : Prop} (h : if t = true then x else y) (ha : x → PR K ok ah N Q X k a) (hb : y → PR K ok ah N Q X k b) : PR K ok ah N Q X k (if t = true then a else b) := by
  cases t with
  | true => exact ha h
  | false => exact hb h
def vAnd (a b : VE Bool) : VE Bool := fun Γ X k => a Γ X fun t => if t = true then b Γ X k else k false
def vOr (a b : VE Bool) : VE Bool := fun Γ X k => a Γ X fun t => if t = true then k true else b Γ X k
def vNot (a : VE Bool) : VE Bool := fun Γ X k => a Γ X fun t => k (!t)
def vYes : VE Bool := fun _ _ k => k true
theorem le_yes : LE K (REq Bool) 0 bYes vYes := ⟨fun o e kk l x => .okI x rfl kk⟩
theorem le_or {c c' : Nat} {m m' : EM Bool} {p p' : VE Bool} (h : LE K (REq Bool) c m p) (h' : LE K (REq Bool) c' m' p') : LE K (REq Bool) (sq c c') (bOr m m') (vOr p p') := ⟨fun {ok Γ env ah N X k} o e kk l x => by
  have s := cb_sq c c'
  refine PR.bind (h.to o e kk (by omega) x) (by omega) fun a b ah' ka q g k2 => ?_
  cases q
  exact PR.ite ka (fun z => .okI z rfl (K.mono k2 (by omega))) fun z => (h'.to (o.grow g) (e.grow o g) k2 (by omega) z).le (by omega)⟩
theorem le_not {c : Nat} {m : EM Bool} {p : VE Bool} (h : LE K (REq Bool) c m p) : LE K (REq Bool) (sq c 0) (bNot m) (vNot p) :=
  le_1 (f := fun b ah => Res.ok (!b) ah) (pf := fun b _ k => k (!b)) h ⟨fun {ok ah N X k a b} o q kk l x => .okI x (by cases q; rfl) kk⟩
def uP : Nat → U → Option PyData
  | 0, _ => none
  | f + 1, u => match u with
    | .non => some .none
    | .bl b => some (.bool b)
    | .int i => some (.int i)
    | .str x => some (.str x)
    | .tup us => (optAll (uP f) us).map .tuple
    | .lst us => (optAll (uP f) us).map .list
    | .dK ks us => (optAll (uP f) us).map fun vs => .dict ((ks.map keyP).zip vs)
    | _ => none
theorem optAll_uP {ok : Nat → Prop} {ah : AH} {f : Nat} (h : ∀ (u : U) (d : D) (p : PyData), R ok ah u d → uP f u = some p → toP ah f d = some p) : ∀ (us : List U) (ds : List D) (ps : List PyData), Rs ok ah us ds → optAll (uP f) us = some ps → optAll (toP ah f) ds = some ps
  | [], _, _, r, e => by simp only [Rs] at r; subst r; exact e
  | u :: us, _, ps, r, e => by
    simp only [Rs] at r
    obtain ⟨d, es, rfl, q, r⟩ := r
    unfold optAll at e ⊢
    split at e
    · rename_i b bs h1 h2
      rw [h u d _ q h1, optAll_uP h us es _ r h2]
      exact e
    · cases e
theorem uP_toP {ok : Nat → Prop} {ah : AH} : ∀ (f : Nat) (u : U) (d : D) (p : PyData), R ok ah u d → uP f u = some p → toP ah f d = some p
  | 0, _, _, _, _, e => by simp [uP] at e
  | f + 1, u, d, p, r, e => by
    have ih := optAll_uP (uP_toP (ok := ok) (ah := ah) f)
    unfold uP at e
    split at e
    · simp only [R] at r; subst r; exact e
    · simp only [R] at r; subst r; exact e
    · simp only [R] at r; subst r; exact e
    · simp only [R] at r; subst r; exact e
    · rename_i us
      simp only [R] at r
      obtain ⟨ds, rfl, r⟩ := r
      rw [Option.map_eq_some_iff] at e
      obtain ⟨ps, e1, e2⟩ := e
      unfold toP
      simp only
      rw [ih us ds ps r e1]
      exact congrArg some e2
    · rename_i us
      simp only [R] at r
      obtain ⟨n, ds, rfl, _, h, r⟩ := r
      rw [Option.map_eq_some_iff] at e
      obtain ⟨ps, e1, e2⟩ := e
      unfold toP
      simp only [h]
      rw [ih us ds ps r e1]
      exact congrArg some e2
    · rename_i ks us
      simp only [R] at r
      obtain ⟨n, ds, rfl, _, h, z, r⟩ := r
      rw [Option.map_eq_some_iff] at e
      obtain ⟨ps, e1, e2⟩ := e
      unfold toP
      simp only [h]
      rw [ih us _ ps r e1, ← e2, ← z]
      simp [Function.comp_def]
    · cases e
def vTruth : U → ExK → (Bool → Prop) → Prop
  | .non, _, k => k false
  | .bl b, _, k => k b
  | .int i, _, k => k (i != 0)
  | .str x, _, k => x.length ≤ line ∧ k ((x.length : Int) != 0)
  | .tup us, _, k => k (!us.isEmpty)
  | .lst us, _, k => k (!us.isEmpty)
  | .dK ks _, _, k => k (!ks.isEmpty)
  | _, _, _ => False
theorem empty_of {α β : Type} {xs : List α} {ys : List β} (h : xs.length = ys.length) : xs.isEmpty = ys.isEmpty := by
  cases xs <;> cases ys <;> simp at h ⊢
theorem lo_truth : LO1 K RU (REq Bool) 0 truth vTruth := ⟨fun {ok ah N X k a b} o q kk l x => by
  change R ok ah a b at q
  unfold vTruth at x
  split at x <;> try simp only [R] at q
  · subst q; exact .okI x rfl kk
  · subst q; exact .okI x rfl kk
  · subst q; exact .okI x rfl kk
  · subst q; unfold truth; simp only; rw [if_pos x.1]; exact .okI x.2 rfl kk
  · obtain ⟨ds, rfl, r⟩ := q
    exact .okI x (show _ = _ by rw [empty_of (Rs.len r)]) kk
  · obtain ⟨n, ds, rfl, _, h, r⟩ := q
    unfold truth
    simp only [h]
    exact .okI x (show _ = _ by rw [empty_of (Rs.len r)]) kk
  · obtain ⟨n, ds, rfl, _, h, z, r⟩ := q
    unfold truth
    simp only [h]
    exact .okI x (show _ = _ by rw [← z]; simp) kk
  · exact x.elim⟩
def vIf (c : VE Bool) (a b : VE α) : VE α := fun Γ X k => c Γ X fun t => if t = true then a Γ X k else b Γ X k
theorem le_if {Q : Rl α β} {c c1 c2 : Nat} {mc : EM Bool} {pc : VE Bool} {m m' : EM β} {p p' : VE α} (hc : LE K (REq Bool) c mc pc) (h : LE K Q c1 m p) (h' : LE K Q c2 m' p') : LE K Q (sq c (sq c1 c2)) (eIf mc m m') (vIf pc p p') := ⟨fun {ok Γ env ah N X k} o e kk l x => by
  have s := cb_sq c (sq c1 c2)
  have s' := cb_sq c1 c2
  refine PR.bind (hc.to o e kk (by omega) x) (by omega) fun a b ah' ka q g k2 => ?_
  cases q
  exact PR.ite ka (fun z => (h.to (o.grow g) (e.grow o g) k2 (by omega) z).le (by omega)) fun z => (h'.to (o.grow g) (e.grow o g) k2 (by omega) z).le (by omega)⟩
def vEAnd (a b : VE U) : VE U := fun Γ X k => a Γ X fun u => vTruth u X fun t => if t = true then b Γ X k else k u
def vEOr (a b : VE U) : VE U := fun Γ X k => a Γ X fun u => vTruth u X fun t => if t = true then k u else b Γ X k
def vENot (a : VE U) : VE U := fun Γ X k => a Γ X fun u => vTruth u X fun t => k (.bl (!t))
theorem truth_same {d : D} {ah ah' : AH} {b : Bool} (h : truth d ah = .ok b ah') : ah' = ah := by
  unfold truth at h
  repeat' split at h
  all_goals first
    | (injection h with h1 h2; exact h2.symm)
    | cases h
theorem le_eand {c c' : Nat} {m m' : EM D} {p p' : VE U} (h : LE K RU c m p) (h' : LE K RU c' m' p') : LE K RU (sq c c') (eAnd m m') (vEAnd p p') := ⟨fun {ok Γ env ah N X k} o e kk l x => by
  have s := cb_sq c c'
  refine PR.bind (h.to o e kk (by omega) x) (by omega) fun a b ah' ka q g k2 => ?_
  refine PR.bind (lo_truth.to (o.grow g) q k2 (by rw [cb_zero]; omega) ka) (by rw [cb_zero]; omega) fun a2 b2 ah2 ka2 q2 g2 k3 => ?_
  cases q2
  exact PR.ite ka2 (fun z => (h'.to ((o.grow g).grow g2) ((e.grow o g).grow (o.grow g) g2) k3 (by rw [cb_zero]; omega) z).le (by rw [cb_zero]; omega)) fun z => .okI z (R.grow q (o.grow g) g2) (K.mono k3 (by rw [cb_zero]; omega))⟩
theorem le_enot {c : Nat} {m : EM D} {p : VE U} (h : LE K RU c m p) : LE K RU (sq c 0) (eNot m) (vENot p) :=
  le_1 (f := fun d ah => (truth d ah).bind fun k ah2 => Res.ok (D.bl (!k)) ah2) (pf := fun u X k => vTruth u X fun t => k (U.bl (!t))) (Q' := RU) (c' := 0) h ⟨fun {ok ah N X k a b} o q kk l x => by
    refine PR.bind (lo_truth.to o q kk (by rw [cb_zero] at l ⊢; exact l) x) (Nat.le_refl _) fun a2 b2 ah2 ka2 q2 g2 k3 => ?_
    cases q2
    exact .okI ka2 (show R ok ah2 _ _ by simp only [R]) k3⟩
abbrev V1o (γ : Type) := U → ExK → (γ → Prop) → Prop
abbrev V2o (γ : Type) := U → U → ExK → (γ → Prop) → Prop
def vAdd : V2o U
  | .int i, .int j, _, k => k (.int (i + j))
  | .str x, .str y, _, k => x.length + y.length ≤ line ∧ k (.str (x ++ y))
  | .tup xs, .tup ys, _, k => xs.length + ys.length ≤ line ∧ k (.tup (xs ++ ys))
  | .int i, .bl b, _, k => k (.int (i + dI b))
  | .bl b, .int j, _, k => k (.int (dI b + j))
  | .bl a, .bl b, _, k => k (.int (dI a + dI b))
  | _, _, _, _ => False
theorem lo_add : LO2 K RU RU RU oAdd vAdd := ⟨fun {ok ah N X k a b a' b'} o q q' kk x => by
  change R ok ah a b at q
  change R ok ah a' b' at q'
  unfold vAdd at x
  split at x <;> try simp only [R] at q q'
  · subst q; subst q'; exact .okI x (show R ok ah _ _ by simp only [R]) kk
  · subst q; subst q'; unfold oAdd; simp only; rw [if_pos x.1]; exact .okI x.2 (show R ok ah _ _ by simp only [R]) kk
  · obtain ⟨ds, rfl, r⟩ := q; obtain ⟨es, rfl, s⟩ := q'
    unfold oAdd; simp only; rw [if_pos (show ds.length + es.length ≤ line by rw [← r.len, ← s.len]; exact x.1)]
    exact .okI x.2 (show R ok ah _ _ by simp only [R]; exact ⟨_, rfl, r.app s⟩) kk
  · subst q; subst q'; exact .okI x (show R ok ah _ _ by simp only [R]) kk
  · subst q; subst q'; exact .okI x (show R ok ah _ _ by simp only [R]) kk
  · subst q; subst q'; exact .okI x (show R ok ah _ _ by simp only [R]) kk
  · exact x.elim⟩
def vAddA : V2o U
  | .lst xs, .lst ys, _, k => xs.length + ys.length ≤ line ∧ k (.lst (xs ++ ys))
  | x, y, X, k => vAdd x y X k
theorem lo_addA : LO2 K RU RU RU oAddA vAddA := ⟨fun {ok ah N X k a b a' b'} o q q' kk x => by
  have gen : (∀ n m, b = .ref n → b' = .ref m → False) → vAdd a a' X k → PR K ok ah N RU X k (oAddA b b' ah) := fun hn x => by
    have : oAddA b b' ah = oAdd b b' ah := by
      unfold oAddA
      split
      · rename_i n m _; exact (hn _ _ rfl rfl).elim
      · rfl
    rw [this]
    exact lo_add.to o q q' kk x
  unfold vAddA at x
  split at x
  · change R ok ah _ _ at q
    change R ok ah _ _ at q'
    simp only [R] at q q'
    obtain ⟨n, ds, rfl, _, h, r⟩ := q; obtain ⟨m, es, rfl, _, h', s⟩ := q'
    unfold oAddA
    simp only [h, h']
    rw [if_pos (by rw [← r.len, ← s.len]; exact x.1)]
    exact .newI x.2 (show R ok _ _ _ by simp only [R]; exact ⟨_, _, rfl, o.fresh _ (Nat.le_refl _), by simp, (r.app s).grow o Grow.app⟩) kk
  · refine gen (fun n m e1 e2 => ?_) x
    subst e1; subst e2
    change R ok ah _ _ at q
    change R ok ah _ _ at q'
    unfold vAdd at x
    split at x <;> first | exact x.elim | (simp only [R] at q; first | (cases q; done) | (obtain ⟨_, e, _⟩ := q; cases e))⟩
def vSub : V2o U
  | .int i, .int j, _, k => k (.int (i - j))
  | .int i, .bl b, _, k => k (.int (i - dI b))
  | .bl b, .int j, _, k => k (.int (dI b - j))
  | .bl a, .bl b, _, k => k (.int (dI a - dI b))
  | _, _, _, _ => False
theorem lo_sub : LO2 K RU RU RU oSub vSub := ⟨fun {ok ah N X k a b a' b'} o q q' kk x => by
  change R ok ah a b at q
  change R ok ah a' b' at q'
  unfold vSub at x
  split at x <;> first | exact x.elim | (simp only [R] at q q'; subst q; subst q'; exact .okI x (show R ok ah _ _ by simp only [R]) kk)⟩
def vMul : V2o U
  | .int i, .int j, _, k => mulOk i j = true ∧ k (.int (i * j))
  | .tup xs, .int n, _, k => (xs ≠ [] ∧ 0 ≤ n ∧ n ≤ 1000 ∧ xs.length ≤ 1000) ∧ k (.tup (List.replicate n.toNat xs).flatten)
  | _, _, _, _ => False
def vMulI : V2o U
  | .int i, .int j, _, k => mulOk i j = true ∧ k (.int (i * j))
  | .tup xs, .int n, _, k => (xs ≠ [] ∧ 2 ≤ n ∧ n ≤ 1000 ∧ xs.length ≤ 1000) ∧ k (.tup (List.replicate n.toNat xs).flatten)
  | _, _, _, _ => False
def vFdiv : V2o U
  | .int i, .int j, _, k => (0 < j ∧ j.natAbs.log2 < 9000) ∧ k (.int (i / j))
  | _, _, _, _ => False
def vMod : V2o U
  | .int i, .int j, _, k => 0 < j ∧ k (.int (i % j))
  | _, _, _, _ => False
def vPow : V2o U
  | .int i, .int j, _, k => (0 ≤ j ∧ j ≤ 1000000 ∧ i.natAbs < 2 ^ 64) ∧ k (.int (i ^ j.toNat))
  | _, _, _, _ => False
theorem lo_mod : LO2 K RU RU RU oMod vMod := ⟨fun {ok ah N X k a b a' b'} o q q' kk x => by
  change R ok ah a b at q
  change R ok ah a' b' at q'
  unfold vMod at x
  split at x <;> first | exact x.elim | (simp only [R] at q q'; subst q; subst q'; unfold oMod; simp only; rw [if_pos x.1]; exact .okI x.2 (show R ok ah _ _ by simp only [R]) kk)⟩
theorem lo_pow : LO2 K RU RU RU oPow vPow := ⟨fun {ok ah N X k a b a' b'} o q q' kk x => by
  change R ok ah a b at q
  change R ok ah a' b' at q'
  unfold vPow at x
  split at x <;> first | exact x.elim | (simp only [R] at q q'; subst q; subst q'; unfold oPow; simp only; rw [if_pos x.1]; exact .okI x.2 (show R ok ah _ _ by simp only [R]) kk)⟩
def vNeg : V1o U
  | .int i, _, k => k (.int (-i))
  | _, _, _ => False
theorem lo_neg : LO1 K RU RU 0 oNeg vNeg := ⟨fun {ok ah N X k a b} o q kk l x => by
  change R ok ah a b at q
  unfold vNeg at x
  split at x <;> first | exact x.elim | (simp only [R] at q; subst q; exact .okI x (show R ok ah _ _ by simp only [R]) kk)⟩
def vEq : V2o Bool
  | .int i, .int j, _, k => k (decide (i = j))
  | .str i, .str j, _, k => k (decide (i = j))
  | .bl i, .bl j, _, k => k (decide (i = j))
  | .tup [], .tup ys, _, k => k ys.isEmpty
  | .tup xs, .tup [], _, k => k xs.isEmpty
  | x, y, _, k => match uP 63 x, uP 63 y with
    | some p, some q => (SeqAt.shaped p = true ∧ SeqAt.shaped q = true) ∧ k (PyData.eqv p q)
    | _, _ => False
def vLt : V2o Bool
  | .int i, .int j, _, k => k (decide (i < j))
  | .str a, .str b, _, k => k (decide (a.cps.toList < b.cps.toList))
  | _, _, _, _ => False
def vLe : V2o Bool
  | .int i, .int j, _, k => k (decide (i ≤ j))
  | _, _, _, _ => False
def vGt : V2o Bool
  | .int i, .int j, _, k => k (decide (j < i))
  | _, _, _, _ => False
def vGe : V2o Bool
  | .int i, .int j, _, k => k (decide (j ≤ i))
  | _, _, _, _ => False
theorem lo_lt : LO2 K RU RU (REq Bool) cLt vLt := ⟨fun {ok ah N X k a b a' b'} o q q' kk x => by
  change R ok ah a b at q
  change R ok ah a' b' at q'
  unfold vLt at x
  split at x <;> first | exact x.elim | (simp only [R] at q q'; subst q; subst q'; exact .okI x rfl kk)⟩
theorem lo_le : LO2 K RU RU (REq Bool) cLe vLe := ⟨fun {ok ah N X k a b a' b'} o q q' kk x => by
  change R ok ah a b at q
  change R ok ah a' b' at q'
  unfold vLe at x
  split at x <;> first | exact x.elim | (simp only [R] at q q'; subst q; subst q'; exact .okI x rfl kk)⟩
theorem lo_gt : LO2 K RU RU (REq Bool) cGt vGt := ⟨fun {ok ah N X k a b a' b'} o q q' kk x => by
  change R ok ah a b at q
  change R ok ah a' b' at q'
  unfold vGt at x
  split at x <;> first | exact x.elim | (simp only [R] at q q'; subst q; subst q'; exact .okI x rfl kk)⟩
theorem optAll_len {α β : Type} {f : α → Option β} : ∀ {xs : List α} {ys : List β}, optAll f xs = some ys → ys.length = xs.length
  | [], ys, h => by unfold optAll at h; cases h; rfl
  | x :: xs, ys, h => by
    unfold optAll at h
    split at h
    · rename_i b bs h1 h2
      cases h
      simp [optAll_len h2]
    · cases h
theorem cEq_nilL (ds : List D) (ah : AH) : cEq (.tup []) (.tup ds) ah = .ok ds.isEmpty ah := by
  unfold cEq
  simp only
  split
  · rename_i b h
    unfold eqData at h
    split at h
    · rename_i p q h1 h2
      split at h
      · cases h
        unfold pd deep toP at h1 h2
        simp only [optAll, Option.map_some, Option.some.injEq] at h1
        rw [Option.map_eq_some_iff] at h2
        obtain ⟨ps, e1, rfl⟩ := h2
        subst h1
        have := optAll_len e1
        cases ps <;> cases ds <;> simp [PyData.eqv, PyData.eqvAll] at this ⊢
      · cases h
    · cases h
  · simp [eqLen]
theorem cEq_nilR (ds : List D) (ah : AH) : cEq (.tup ds) (.tup []) ah = .ok ds.isEmpty ah := by
  unfold cEq
  simp only
  split
  · rename_i b h
    unfold eqData at h
    split at h
    · rename_i p q h1 h2
      split at h
      · cases h
        unfold pd deep toP at h1 h2
        simp only [optAll, Option.map_some, Option.some.injEq] at h2
        rw [Option.map_eq_some_iff] at h1
        obtain ⟨ps, e1, rfl⟩ := h1
        subst h2
        have := optAll_len e1
        cases ps <;> cases ds <;> simp [PyData.eqv, PyData.eqvAll] at this ⊢
      · cases h
    · cases h
  · simp [eqLen]
theorem lo_eq : LO2 K RU RU (REq Bool) cEq vEq := ⟨fun {ok ah N X k a b a' b'} o q q' kk x => by
  change R ok ah a b at q
  change R ok ah a' b' at q'
  unfold vEq at x
  split at x
  · simp only [R] at q q'; subst q; subst q'; exact .okI x rfl kk
  · simp only [R] at q q'; subst q; subst q'; exact .okI x rfl kk
  · simp only [R] at q q'; subst q; subst q'; exact .okI x rfl kk
  · simp only [R] at q q'
    obtain ⟨ds, rfl, r⟩ := q; obtain ⟨es, rfl, s⟩ := q'
    simp only [Rs] at r
    subst r
    rw [cEq_nilL]
    exact .okI x (show _ = _ by rw [empty_of s.len]) kk
  · simp only [R] at q q'
    obtain ⟨ds, rfl, r⟩ := q; obtain ⟨es, rfl, s⟩ := q'
    simp only [Rs] at s
    subst s
    rw [cEq_nilR]
    exact .okI x (show _ = _ by rw [empty_of r.len]) kk
  · rename_i h1 h2 h3 h4 h5
    split at x
    · rename_i p p' e1 e2
      have d1 := uP_toP _ _ _ _ q e1
      have d2 := uP_toP _ _ _ _ q' e2
      have : eqData ah b b' = some (PyData.eqv p p') := by
        unfold eqData pd deep
        rw [d1, d2]
        simp only
        rw [if_pos x.1]
      have : cEq b b' ah = .ok (PyData.eqv p p') ah := by
        unfold cEq
        split
        · rename_i i j
          unfold eqData at this
          have e3 : PyData.int i = p := by unfold toP at d1; exact Option.some.inj d1
          have e4 : PyData.int j = p' := by unfold toP at d2; exact Option.some.inj d2
          subst e3; subst e4
          simp only [PyData.eqv]
          rfl
        · rename_i i j
          have e3 : PyData.str i = p := by unfold toP at d1; exact Option.some.inj d1
          have e4 : PyData.str j = p' := by unfold toP at d2; exact Option.some.inj d2
          subst e3; subst e4
          simp only [PyData.eqv]
          congr 1
        · rename_i i j
          have e3 : PyData.bool i = p := by unfold toP at d1; exact Option.some.inj d1
          have e4 : PyData.bool j = p' := by unfold toP at d2; exact Option.some.inj d2
          subst e3; subst e4
          simp only [PyData.eqv]
          congr 1
        · rw [this]
      rw [this]
      exact .okI x.2 rfl kk
    · exact x.elim⟩
def vNe : V2o Bool := fun a b X k => vEq a b X fun t => k (!t)
theorem lo_ne : LO2 K RU RU (REq Bool) cNe vNe := ⟨fun {ok ah N X k a b a' b'} o q q' kk x =>
  PR.bind (lo_eq.to o q q' kk x) (Nat.le_refl _) fun a b ah' ka e g kk' => by cases e; exact .okI ka rfl kk'⟩
end
end HV
namespace HV
open PySem PySem.Spec PyProof.Rows L2 HA
section
variable {K : Dks} {α β γ δ α' β' γ' δ' : Type}
def vChain (a b c : VE U) (f g : V2o Bool) : VE Bool := fun Γ X k => a Γ X fun x => b Γ X fun y => f x y X fun t => if t = true then c Γ X fun z => g y z X k else k false
theorem le_chain {c1 c2 c3 : Nat} {ma mb mc : EM D} {a b c : VE U} {fo go : D → D → AH → Res Bool} {f g : V2o Bool} (ha : LE K RU c1 ma a) (hb : LE K RU c2 mb b) (hc : LE K RU c3 mc c) (hf : LO2 K RU RU (REq Bool) fo f) (hg : LO2 K RU RU (REq Bool) go g) : LE K (REq Bool) (sq c1 (sq c2 c3)) (bChain ma mb mc fo go) (vChain a b c f g) := ⟨fun {ok Γ env ah N X k} o e kk l x => by
  have s := cb_sq c1 (sq c2 c3)
  have s' := cb_sq c2 c3
  refine PR.bind (ha.to o e kk (by omega) x) (by omega) fun a b ah1 ka q1 g1 k1 => ?_
  have o1 := o.grow g1
  have e1 := e.grow o g1
  refine PR.bind (hb.to o1 e1 k1 (by omega) ka) (by omega) fun a2 b2 ah2 ka2 q2 g2 k2 => ?_
  have o2 := o1.grow g2
  have e2 := e1.grow o1 g2
  refine PR.bind (hf.to o2 (R.grow q1 o1 g2) q2 k2 ka2) (by omega) fun a3 b3 ah3 ka3 q3 g3 k3 => ?_
  cases q3
  refine PR.ite ka3 (fun z => ?_) fun z => .okI z rfl (K.mono k3 (by omega))
  have o3 := o2.grow g3
  refine PR.bind (hc.to o3 (e2.grow o2 g3) k3 (by omega) z) (by omega) fun a4 b4 ah4 ka4 q4 g4 k4 => ?_
  exact (hg.to (o3.grow g4) (R.grow (R.grow q2 o2 g3) o3 g4) q4 k4 ka4).le (by omega)⟩
def uKey : U → Option Key
  | .int i => some (.inl i)
  | .str x => some (.inr x)
  | _ => none
theorem uKey_d {ok : Nat → Prop} {ah : AH} {u : U} {d : D} {kk : Key} (h : R ok ah u d) (e : uKey u = some kk) : dKey d = some kk := by
  unfold uKey at e
  split at e
  · simp only [R] at h; subst h; exact e
  · simp only [R] at h; subst h; exact e
  · cases e
def uIn (x : U) (us : List U) (k : Bool → Prop) : Prop := match uP 63 x, optAll (uP 62) us with
  | some p, some ps => (SeqAt.shaped p = true ∧ PyData.canLayAll0 ps = true) ∧ k (ps.any fun z => PyData.eqv z p)
  | _, _ => False
theorem uIn_d {ok : Nat → Prop} {ah : AH} {u : U} {us : List U} {d : D} {ds : List D} {k : Bool → Prop} (h : R ok ah u d) (r : Rs ok ah us ds) (x : uIn u us k) : ∃ b, inData ah d ds = some b ∧ k b := by
  unfold uIn at x
  split at x
  · rename_i p ps h1 h2
    refine ⟨_, ?_, x.2⟩
    unfold inData pd deep
    rw [uP_toP _ _ _ _ h h1, optAll_uP (uP_toP (ok := ok) (ah := ah) 62) us ds ps r h2]
    simp only
    rw [if_pos x.1]
  · exact x.elim
def vIn : V2o Bool
  | .str a, .str b, _, k => k (strIn a b)
  | x, .tup us, _, k => uIn x us k
  | x, .lst us, _, k => uIn x us k
  | x, .dK ks us, _, k => match uKey x with
    | some kk => k (ks.any fun z => decide (z = kk))
    | none => False
  | _, _, _, _ => False
theorem lo_in : LO2 K RU RU (REq Bool) cIn vIn := ⟨fun {ok ah N X k a b a' b'} o q q' kk x => by
  change R ok ah a b at q
  change R ok ah a' b' at q'
  unfold vIn at x
  split at x
  · simp only [R] at q q'; subst q; subst q'; exact .okI x rfl kk
  · simp only [R] at q'
    obtain ⟨es, rfl, s⟩ := q'
    obtain ⟨t, h1, h2⟩ := uIn_d q s x
    unfold cIn
    simp only [h1]
    exact .okI h2 rfl kk
  · simp only [R] at q'
    obtain ⟨n, es, rfl, _, h, s⟩ := q'
    obtain ⟨t, h1, h2⟩ := uIn_d q s x
    unfold cIn
    simp only [h, h1]
    exact .okI h2 rfl kk
  · simp only [R] at q'
    obtain ⟨n, es, rfl, _, h, z, s⟩ := q'
    split at x
    · rename_i k1 hk
      unfold cIn
      simp only [h, uKey_d q hk]
      exact .okI x (show _ = _ by rw [← z, List.any_map]; rfl) kk
    · exact x.elim
  · exact x.elim⟩
def vNotIn : V2o Bool := fun a b X k => vIn a b X fun t => k (!t)
def uNon : U → Bool
  | .non => true
  | .cst w => decide (w = .non)
  | _ => false
def vIs : V2o Bool
  | .bl a, .bl b, _, k => k (decide (a = b))
  | x, .non, _, k => k (uNon x)
  | _, _, _, _ => False
theorem lo_is : LO2 K RU RU (REq Bool) cIs vIs := ⟨fun {ok ah N X k a b a' b'} o q q' kk x => by
  change R ok ah a b at q
  change R ok ah a' b' at q'
  unfold vIs at x
  split at x
  · simp only [R] at q q'; subst q; subst q'; exact .okI x rfl kk
  · simp only [R] at q'; subst q'
    have e : cIs b .non ah = .ok b.isNon ah := by cases b <;> rfl
    rw [e]
    refine .okI x ?_ kk
    cases a <;> (try simp only [R] at q) <;> first | (subst q; rfl) | (obtain ⟨_, rfl, _⟩ := q; rfl) | (obtain ⟨_, _, rfl, _⟩ := q; rfl)
  · exact x.elim⟩
def vIsNot : V2o Bool := fun a b X k => vIs a b X fun t => k (!t)
def vListOf : V1o (List U)
  | .lst us, _, k => k us
  | _, _, _ => False
theorem lo_listOf : LO1 K RU RUs 0 HA.listOf vListOf := ⟨fun {ok ah N X k a b} o q kk l x => by
  change R ok ah a b at q
  unfold vListOf at x
  split at x
  · simp only [R] at q
    obtain ⟨n, ds, rfl, _, h, r⟩ := q
    unfold HA.listOf HA.listAt
    simp only [h]
    exact .okI x r kk
  · exact x.elim⟩
def vSeqOf : V1o (List U)
  | .lst us, _, k => k us
  | .tup us, _, k => k us
  | _, _, _ => False
theorem lo_seqOf : LO1 K RU RUs 0 seqOf vSeqOf := ⟨fun {ok ah N X k a b} o q kk l x => by
  change R ok ah a b at q
  unfold vSeqOf at x
  split at x
  · simp only [R] at q
    obtain ⟨n, ds, rfl, _, h, r⟩ := q
    unfold seqOf HA.listAt
    simp only [h]
    exact .okI x r kk
  · simp only [R] at q
    obtain ⟨ds, rfl, r⟩ := q
    exact .okI x r kk
  · exact x.elim⟩
def vLen : V1o U
  | .str z, _, k => z.length ≤ line ∧ k (.int z.length)
  | .tup us, _, k => k (.int us.length)
  | .lst us, _, k => k (.int us.length)
  | .dK ks _, _, k => k (.int ks.length)
  | _, _, _ => False
def vLenA : List U → ExK → (U → Prop) → Prop
  | [u], X, k => vLen u X k
  | _, _, _ => False
theorem lo_len : LO1 K RUs RU 0 oLenA vLenA := ⟨fun {ok ah N X k a b} o q kk l x => by
  change Rs ok ah a b at q
  unfold vLenA at x
  split at x
  · rename_i u
    simp only [Rs] at q
    obtain ⟨d, es, rfl, q, rfl⟩ := q
    unfold oLenA
    simp only
    unfold vLen at x
    unfold oLen
    split at x
    · simp only [R] at q; subst q; simp only; rw [if_pos x.1]; exact .okI x.2 (show R ok ah _ _ by simp only [R]) kk
    · simp only [R] at q; obtain ⟨ds, rfl, r⟩ := q; exact .okI x (show R ok ah _ _ by simp only [R]; rw [r.len]) kk
    · simp only [R] at q; obtain ⟨n, ds, rfl, _, h, r⟩ := q; simp only [h]; exact .okI x (show R ok ah _ _ by simp only [R]; rw [r.len]) kk
    · simp only [R] at q; obtain ⟨n, ds, rfl, _, h, z, r⟩ := q; simp only [h]; exact .okI x (show R ok ah _ _ by simp only [R]; rw [← z]; simp) kk
    · exact x.elim
  · exact x.elim⟩
def uName : U → Option String
  | .non => some "NoneType"
  | .bl _ => some "bool"
  | .int _ => some "int"
  | .str _ => some "str"
  | .tup _ => some "tuple"
  | .lst _ => some "list"
  | .dK _ _ => some "dict"
  | .dT _ _ => some "dict"
  | _ => none
theorem uName_d {ok : Nat → Prop} {ah : AH} {u : U} {d : D} {a : String} (q : R ok ah u d) (h : uName u = some a) : tyName d ah = some a := by
  unfold uName at h
  unfold tyName
  split at h <;> (try simp only [R] at q) <;> first | (subst q; exact h) | (obtain ⟨_, rfl, _⟩ := q; exact h) | (obtain ⟨_, _, rfl, _, e, _⟩ := q; simp only [e]; exact h) | cases h
def uTys : List U → Option (List String)
  | [] => some []
  | .cst (.ty T) :: r => (uTys r).map (T :: ·)
  | _ => none
theorem uTys_d {ok : Nat → Prop} {ah : AH} : ∀ {us : List U} {ds : List D} {Ts : List String}, Rs ok ah us ds → uTys us = some Ts → tyArgs ds = some Ts
  | [], ds, Ts, r, h => by
    simp only [Rs] at r
    subst r
    exact h
  | u :: us, ds, Ts, r, h => by
    unfold uTys at h
    split at h
    · rename_i e; cases e
    · rename_i T r' e
      cases e
      rw [Option.map_eq_some_iff] at h
      obtain ⟨Ts', h1, rfl⟩ := h
      simp only [Rs, R] at r
      obtain ⟨d, es, rfl, rfl, r2⟩ := r
      simp only [tyArgs, uTys_d r2 h1, Option.map_some]
    · cases h
def vIsi : List U → ExK → (U → Prop) → Prop
  | [u, .cst (.ty T)], _, k => match uName u with
    | some a => T ∈ tyTable ∧ k (.bl (tyIs a T))
    | none => False
  | [u, .tup ts], _, k => match uName u, uTys ts with
    | some a, some Ts => (Ts.all fun T => decide (T ∈ tyTable)) = true ∧ k (.bl (Ts.any (tyIs a)))
    | _, _ => False
  | _, _, _ => False
theorem lo_isi : LO1 K RUs RU 0 oIsi vIsi := ⟨fun {ok ah N X k a b} o q kk l x => by
  change Rs ok ah a b at q
  unfold vIsi at x
  split at x
  · rename_i u T
    simp only [Rs, R] at q
    obtain ⟨d, es, rfl, q, d2, es2, rfl, rfl, rfl⟩ := q
    split at x
    · rename_i a h
      unfold oIsi
      simp only [uName_d q h]
      rw [if_pos x.1]
      exact .okI x.2 (show R ok ah _ _ by simp only [R]) kk
    · exact x.elim
  · rename_i u ts
    simp only [Rs, R] at q
    obtain ⟨d, es, rfl, q, d2, es2, rfl, ⟨ds, rfl, q2⟩, rfl⟩ := q
    split at x
    · rename_i a Ts h h2
      unfold oIsi
      simp only [uName_d q h, uTys_d q2 h2]
      rw [if_pos x.1]
      exact .okI x.2 (show R ok ah _ _ by simp only [R]) kk
    · exact x.elim
  · exact x.elim⟩
def ShowOk (p : PyData) : Prop := p.showable = true ∧ p.shown.length ≤ line ∧ p.depth ≤ 63
def vRepr : List U → ExK → (U → Prop) → Prop
  | [u], _, k => match uP 63 u with
    | some p => ShowOk p ∧ k (.str p.shown)
    | none => False
  | _, _, _ => False
theorem lo_repr : LO1 K RUs RU 0 oRepr vRepr := ⟨fun {ok ah N X k a b} o q kk l x => by
  change Rs ok ah a b at q
  unfold vRepr at x
  split at x
  · simp only [Rs, R] at q
    obtain ⟨d, es, rfl, q, rfl⟩ := q
    split at x
    · rename_i p h
      unfold oRepr pd deep
      simp only [uP_toP _ _ _ _ q h]
      rw [if_pos (show p.showable = true ∧ p.shown.length ≤ line ∧ p.depth ≤ 63 from x.1)]
      exact .okI x.2 (show R ok ah _ _ by simp only [R]) kk
    · exact x.elim
  · exact x.elim⟩
def vLRepr : List U → ExK → (U → Prop) → Prop := fun us _ k => match optAll (uP 62) us with
  | some ps => ShowOk (.list ps) ∧ k (.str (PyData.shown (.list ps)))
  | none => False
def vStr : List U → ExK → (U → Prop) → Prop
  | [.int i], _, k => i.natAbs.log2 < 1920 ∧ k (.str (toString i))
  | [.bl b], _, k => k (.str (if b then "True" else "False"))
  | [.str x], _, k => k (.str x)
  | [.non], _, k => k (.str "None")
  | _, _, _ => False
theorem lo_str : LO1 K RUs RU 0 oStr vStr := ⟨fun {ok ah N X k a b} o q kk l x => by
  change Rs ok ah a b at q
  unfold vStr at x
  split at x <;> (try simp only [Rs, R] at q)
  · obtain ⟨d, es, rfl, rfl, rfl⟩ := q; unfold oStr; simp only; rw [if_pos x.1]; exact .okI x.2 (show R ok ah _ _ by simp only [R]) kk
  · obtain ⟨d, es, rfl, rfl, rfl⟩ := q; exact .okI x (show R ok ah _ _ by simp only [R]) kk
  · obtain ⟨d, es, rfl, rfl, rfl⟩ := q; exact .okI x (show R ok ah _ _ by simp only [R]) kk
  · obtain ⟨d, es, rfl, rfl, rfl⟩ := q; exact .okI x (show R ok ah _ _ by simp only [R]) kk
  · exact x.elim⟩
def vInt : List U → ExK → (U → Prop) → Prop
  | [.int i], _, k => k (.int i)
  | [.bl b], _, k => k (.int (if b then 1 else 0))
  | _, _, _ => False
theorem lo_int : LO1 K RUs RU 0 oInt vInt := ⟨fun {ok ah N X k a b} o q kk l x => by
  change Rs ok ah a b at q
  unfold vInt at x
  split at x <;> (try simp only [Rs, R] at q) <;> first | exact x.elim | (obtain ⟨d, es, rfl, rfl, rfl⟩ := q; exact .okI x (show R ok ah _ _ by simp only [R]) kk)⟩
def vMin : List U → ExK → (U → Prop) → Prop
  | [.int i, .int j], _, k => k (.int (if j < i then j else i))
  | _, _, _ => False
def vMax : List U → ExK → (U → Prop) → Prop
  | [.int i, .int j], _, k => k (.int (if j > i then j else i))
  | _, _, _ => False
def uInt : U → Option Int
  | .int i => some i
  | _ => none
def uBool : U → Option Bool
  | .bl b => some b
  | _ => none
theorem optAll_Rs {γ : Type} {ok : Nat → Prop} {ah : AH} {f : U → Option γ} {g : D → Option γ} (h : ∀ u d z, R ok ah u d → f u = some z → g d = some z) : ∀ (us : List U) (ds : List D) (zs : List γ), Rs ok ah us ds → optAll f us = some zs → optAll g ds = some zs
  | [], _, _, r, e => by simp only [Rs] at r; subst r; exact e
  | u :: us, _, ps, r, e => by
    simp only [Rs] at r
    obtain ⟨d, es, rfl, q, r⟩ := r
    unfold optAll at e ⊢
    split at e
    · rename_i b bs h1 h2
      rw [h u d _ q h1, optAll_Rs h us es _ r h2]
      exact e
    · cases e
theorem uInt_d {ok : Nat → Prop} {ah : AH} (u : U) (d : D) (z : Int) (r : R ok ah u d) (e : uInt u = some z) : dInt d = some z := by
  unfold uInt at e
  split at e
  · simp only [R] at r; subst r; exact e
  · cases e
def vSum (us : List U) (_ : ExK) (k : U → Prop) : Prop := match optAll uInt us with
  | some ns => k (.int ns.sum)
  | none => False
def vAll (us : List U) (_ : ExK) (k : U → Prop) : Prop := match optAll uBool us with
  | some ns => k (.bl (ns.all id))
  | none => False
def vAny (us : List U) (_ : ExK) (k : U → Prop) : Prop := match optAll uBool us with
  | some ns => k (.bl (ns.any id))
  | none => False
theorem lo_sum : LO1 K RUs RU 0 sSum vSum := ⟨fun {ok ah N X k a b} o q kk l x => by
  change Rs ok ah a b at q
  unfold vSum at x
  split at x
  · rename_i ns h
    unfold sSum
    rw [optAll_Rs uInt_d _ _ _ q h]
    exact .okI x (show R ok ah _ _ by simp only [R]) kk
  · exact x.elim⟩
def vTupOf (us : List U) (_ : ExK) (k : U → Prop) : Prop := k (.tup us)
theorem lo_tupOf : LO1 K RUs RU 0 sTup vTupOf := ⟨fun {ok ah N X k a b} o q kk l x => .okI x (show R ok ah _ _ by simp only [R]; exact ⟨b, rfl, q⟩) kk⟩
def vId (us : List U) (_ : ExK) (k : List U → Prop) : Prop := k us
theorem lo_id : LO1 K RUs RUs 0 sList vId := ⟨fun {ok ah N X k a b} o q kk l x => .okI x q kk⟩
def vRevL (us : List U) (_ : ExK) (k : List U → Prop) : Prop := k us.reverse
def vRevT : V1o U
  | .tup us, _, k => k (.tup us.reverse)
  | _, _, _ => False
theorem ixD_Rs {ok : Nat → Prop} {ah : AH} {us : List U} {ds : List D} {i : Int} {u : U} (r : Rs ok ah us ds) (h : ixD us i = some u) : ∃ d, ixD ds i = some d ∧ R ok ah u d := by
  unfold ixD at h ⊢
  rw [← r.len]
  cases z : ixN us.length i with
  | none => rw [z] at h; cases h
  | some j => rw [z] at h; exact r.get h
def vIx : V2o U
  | .tup us, .int i, _, k => match ixD us i with
    | some u => k u
    | none => False
  | .lst us, .int i, _, k => match ixD us i with
    | some u => k u
    | none => False
  | .str z, .int i, _, k => z.length ≤ line ∧ match ixD z.cps.toList i with
    | some c => k (.str ⟨#[c]⟩)
    | none => False
  | _, _, _, _ => False
theorem lo_ix : LO2 K RU RU RU oIx vIx := ⟨fun {ok ah N X k a b a' b'} o q q' kk x => by
  change R ok ah a b at q
  change R ok ah a' b' at q'
  unfold vIx at x
  split at x
  · simp only [R] at q q'
    obtain ⟨ds, rfl, r⟩ := q; subst q'
    split at x
    · rename_i u h
      obtain ⟨d, h1, h2⟩ := ixD_Rs r h
      unfold oIx
      simp only [h1]
      exact .okI x h2 kk
    · exact x.elim
  · simp only [R] at q q'
    obtain ⟨n, ds, rfl, _, e, r⟩ := q; subst q'
    split at x
    · rename_i u h
      obtain ⟨d, h1, h2⟩ := ixD_Rs r h
      unfold oIx
      simp only [e, h1]
      exact .okI x h2 kk
    · exact x.elim
  · simp only [R] at q q'
    subst q; subst q'
    obtain ⟨x1, x⟩ := x
    split at x
    · rename_i c h
      unfold oIx
      simp only [h]
      rw [if_pos x1]
      exact .okI x (show R ok ah _ _ by simp only [R]) kk
    · exact x.elim
  · exact x.elim⟩
def vLIx (us : List U) (d : U) (_ : ExK) (k : U → Prop) : Prop := match d with
  | .int i => match ixD us i with
    | some u => k u
    | none => False
  | _ => False
theorem lo_lix : LO2 K RUs RU RU lIx vLIx := ⟨fun {ok ah N X k a b a' b'} o q q' kk x => by
  change Rs ok ah a b at q
  change R ok ah a' b' at q'
  unfold vLIx at x
  split at x
  · simp only [R] at q'
    subst q'
    split at x
    · rename_i u h
      obtain ⟨d, h1, h2⟩ := ixD_Rs q h
      unfold lIx
      simp only [h1]
      exact .okI x h2 kk
    · exact x.elim
  · exact x.elim⟩
theorem Rs.cut {ok : Nat → Prop} {ah : AH} {us : List U} {ds : List D} (r : Rs ok ah us ds) (lo hi : Option Int) : Rs ok ah (HA.cut us lo hi) (HA.cut ds lo hi) := by
  unfold HA.cut
  rw [← r.len]
  exact (r.drop _).take _
def vPart (m : Option (VE U)) : VE (Option Int) := match m with
  | none => fun _ _ k => k none
  | some p => fun Γ X k => p Γ X fun u => match u with
    | .int i => k (some i)
    | _ => False
theorem le_pnone : LE K (REq (Option Int)) 0 (oPart none) (vPart none) := ⟨fun o e kk l x => .okI x rfl kk⟩
theorem le_psome {c : Nat} {m : EM D} {p : VE U} (h : LE K RU c m p) : LE K (REq (Option Int)) (sq c 0) (oPart (some m)) (vPart (some p)) := ⟨fun {ok Γ env ah N X k} o e kk l x => by
  have s := cb_sq c 0
  refine PR.bind (h.to o e kk (by omega) x) (cb_left c 0 |> Nat.add_le_add_left (k := N)) fun a b ah' ka q g k2 => ?_
  change R ok ah' a b at q
  split at ka
  · simp only [R] at q; subst q; exact .okI ka rfl (K.mono k2 (by omega))
  · exact ka.elim⟩
def vCut (u : U) (lo hi : Option Int) (_ : ExK) (k : U → Prop) : Prop := match u with
  | .tup us => k (.tup (HA.cut us lo hi))
  | .str z => z.length ≤ line ∧ k (.str (cutS z lo hi))
  | _ => False
theorem lo_cut : LO3 K RU (REq (Option Int)) (REq (Option Int)) RU oCut vCut := ⟨fun {ok ah N X k a b a' b' a2 b2} o q q1 q2 kk x => by
  change R ok ah a b at q
  cases q1; cases q2
  unfold vCut at x
  split at x
  · simp only [R] at q
    obtain ⟨ds, rfl, r⟩ := q
    exact .okI x (show R ok ah _ _ by simp only [R]; exact ⟨_, rfl, r.cut _ _⟩) kk
  · simp only [R] at q
    subst q
    unfold oCut
    dsimp only
    rw [if_pos x.1]
    exact .okI x.2 (show R ok ah _ _ by simp only [R]) kk
  · exact x.elim⟩
def vLCut (u : U) (lo hi : Option Int) (_ : ExK) (k : List U → Prop) : Prop := match u with
  | .lst us => k (HA.cut us lo hi)
  | _ => False
def RLt : Rl (List U) LT := ⟨fun ok ah us t => match t with
  | .inl ds => Rs ok ah us ds
  | .inr n => ∃ ds, ok n ∧ ah[n]? = some (.lst ds) ∧ Rs ok ah us ds, fun {ok ok' ah ah' a b} h1 h2 h => by
    cases b with
    | inl ds => exact Rs.mono h1 h2 _ _ h
    | inr n => obtain ⟨ds, o, e, r⟩ := h; exact ⟨ds, h1 n o, h2 n _ o e, Rs.mono h1 h2 _ _ r⟩⟩
theorem le_tnew {c : Nat} {m : EM (List D)} {p : VE (List U)} (h : LE K RUs c m p) : LE K RLt (sq c 0) (tNew m) (v1 p vId) := le_1 h ⟨fun {ok ah N X k a b} o q kk l x => .okI x q kk⟩
theorem le_tour {c : Nat} {m : EM D} {p : VE U} (h : LE K RU c m p) : LE K RLt (sq c 0) (tOur m) (v1 p vListOf) := le_1 h ⟨fun {ok ah N X k a b} o q kk l x => by
  change R ok ah a b at q
  unfold vListOf at x
  split at x
  · simp only [R] at q
    obtain ⟨n, ds, rfl, on, h, r⟩ := q
    exact .okI x ⟨ds, on, h, r⟩ kk
  · exact x.elim⟩
theorem ltOf_R {ok : Nat → Prop} {ah : AH} {us : List U} {t : LT} (h : RLt.r ok ah us t) : ∃ ds, ltOf t ah = some ds ∧ Rs ok ah us ds := by
  cases t with
  | inl ds => exact ⟨ds, rfl, h⟩
  | inr n => obtain ⟨ds, o, e, r⟩ := h; exact ⟨ds, by unfold ltOf; simp only [e], r⟩
def vCat (xs ys : List U) (_ : ExK) (k : List U → Prop) : Prop := xs.length + ys.length ≤ line ∧ k (xs ++ ys)
theorem lo_cat : LO2 K RLt RLt RUs lCat vCat := ⟨fun {ok ah N X k a b a' b'} o q q' kk x => by
  obtain ⟨ds, h, r⟩ := ltOf_R q
  obtain ⟨es, h', s⟩ := ltOf_R q'
  unfold lCat
  rw [h, h']
  simp only
  rw [if_pos (by rw [← r.len, ← s.len]; exact x.1)]
  exact .okI x.2 (Rs.app r s) kk⟩
def vRep (xs : List U) (y : U) (_ : ExK) (k : List U → Prop) : Prop := match y with
  | .int n => (-(2 ^ 63) ≤ n ∧ n < 2 ^ 63 ∧ xs.length * n.toNat ≤ line) ∧ k (List.replicate n.toNat xs).flatten
  | _ => False
def vNil (neg : Bool) (us : List U) (_ : ExK) (k : Bool → Prop) : Prop := k (if us.isEmpty = true then !neg else neg)
theorem lo_nil (neg : Bool) : LO1 K RUs (REq Bool) 0 (lNil neg) (vNil neg) := ⟨fun {ok ah N X k a b} o q kk l x => by
  change Rs ok ah a b at q
  unfold vNil at x
  unfold lNil
  have e : b.isEmpty = a.isEmpty := by
    have := q.len
    cases a <;> cases b <;> simp at this ⊢
  rw [e]
  exact .okI x rfl kk⟩
theorem le_nil {neg : Bool} {c : Nat} {m : EM (List D)} {p : VE (List U)} (h : LE K RUs c m p) : LE K (REq Bool) (sq c 0) (bNil neg m) (v1 p (vNil neg)) := le_1 h (lo_nil neg)
def vRange (i j : Int) (k : List U → Prop) : Prop := (-(2 ^ 62) ≤ i ∧ i < 2 ^ 62 ∧ -(2 ^ 62) ≤ j ∧ j < 2 ^ 62 ∧ (j - i).toNat ≤ 2 ^ 24) ∧ k ((List.range (j - i).toNat).map fun (n : Nat) => U.int (i + n))
def vRange1 : V1o (List U)
  | .int j, _, k => vRange 0 j k
  | _, _, _ => False
def vRange2 : V2o (List U)
  | .int i, .int j, _, k => vRange i j k
  | _, _, _, _ => False
theorem Rs.range {ok : Nat → Prop} {ah : AH} (i : Int) (n : Nat) : Rs ok ah ((List.range n).map fun (n : Nat) => U.int (i + n)) ((List.range n).map fun (n : Nat) => D.int (i + n)) := by
  have := Rs.of_ints (ok := ok) (ah := ah) ((List.range n).map fun (n : Nat) => i + (n : Int))
  simpa [Function.comp_def] using this
def uVal {κ : Type} [DecidableEq κ] (ks : List κ) (us : List U) (k : κ) : Option U := match ks, us with
  | k1 :: ks, u :: us => if k1 = k then some u else uVal ks us k
  | _, _ => none
theorem uVal_d {κ : Type} [DecidableEq κ] {ok : Nat → Prop} {ah : AH} {k : κ} {u : U} : ∀ (ks : List κ) (us : List U) (kvs : List (κ × D)), kvs.map (·.1) = ks → Rs ok ah us (kvs.map (·.2)) → uVal ks us k = some u → ∃ d, valD kvs k = some d ∧ R ok ah u d
  | [], us, kvs, h, r, e => by unfold uVal at e; cases e
  | k1 :: ks, [], kvs, h, r, e => by unfold uVal at e; cases e
  | k1 :: ks, u1 :: us, [], h, r, e => by simp at h
  | k1 :: ks, u1 :: us, kv :: kvs, h, r, e => by
    simp only [List.map_cons, List.cons.injEq] at h
    simp only [List.map_cons, Rs, List.cons.injEq] at r
    obtain ⟨d, es, ⟨rfl, rfl⟩, q, r⟩ := r
    unfold uVal at e
    unfold valD
    rw [List.find?_cons]
    split at e
    · rename_i h1
      cases e
      have : decide (kv.1 = k) = true := by rw [h.1, h1]; simp
      rw [this]
      exact ⟨_, rfl, q⟩
    · rename_i h1
      have : decide (kv.1 = k) = false := by rw [h.1]; simpa using h1
      rw [this]
      exact uVal_d ks us kvs h.2 r e
def vGet : V2o U
  | .dK ks us, x, _, k => match uKey x with
    | some kk => match uVal ks us kk with
      | some u => k u
      | none => False
    | none => False
  | _, _, _, _ => False
end
end HV
namespace HV
open PySem PySem.Spec PyProof.Rows L2 HA
section
variable {K : Dks} {α β γ δ α' β' γ' δ' : Type}
theorem PR.after {ok : Nat → Prop} {ah ah' : AH} {N : Nat} {Q : Rl α β} {X : ExK} {k : α → Prop} {r : Res β} (h : PR K ok ah' N Q X k r) (g : Grow ah ah') : PR K ok ah N Q X k r := by
  revert h
  unfold PR
  split
  · exact fun ⟨a, x1, x2, x3, x4⟩ => ⟨a, x1, x2, g.trans x3, x4⟩
  · exact fun ⟨a, x1, x2, x3, x4⟩ => ⟨a, x1, x2, g.trans x3, x4⟩
  · exact fun h => h
def RIt : Rl (List U) Itm := ⟨fun ok ah us t => Rs ok ah us t.items ∧ ∀ p, p ∈ t.guard → ok p.1 ∧ ah[p.1]? = some (.lst p.2), fun h1 h2 h => ⟨Rs.mono h1 h2 _ _ h.1, fun p hp => ⟨h1 _ (h.2 p hp).1, h2 _ _ (h.2 p hp).1 (h.2 p hp).2⟩⟩⟩
theorem okIn_of {t : Itm} {ah : AH} (h : ∀ p, p ∈ t.guard → ah[p.1]? = some (.lst p.2)) : t.okIn ah = true := by
  unfold Itm.okIn
  rw [List.all_eq_true]
  intro p hp
  unfold HA.listAt
  rw [h p hp]
  simp
theorem le_inew {c : Nat} {m : EM (List D)} {p : VE (List U)} (h : LE K RUs c m p) : LE K RIt (sq c 0) (iNew m) (v1 p vId) := le_1 h ⟨fun {ok ah N X k a b} o q kk l x => .okI x ⟨q, fun p hp => by cases hp⟩ kk⟩
theorem lo_ival : LO1 K RU RIt 0 iVal vSeqOf := ⟨fun {ok ah N X k a b} o q kk l x => by
  change R ok ah a b at q
  unfold vSeqOf at x
  split at x
  · simp only [R] at q
    obtain ⟨n, ds, rfl, on, h, r⟩ := q
    unfold iVal HA.listAt
    simp only [h]
    exact .okI x ⟨r, fun p hp => by simp only [List.mem_singleton] at hp; subst hp; exact ⟨on, h⟩⟩ kk
  · simp only [R] at q
    obtain ⟨ds, rfl, r⟩ := q
    exact .okI x ⟨r, fun p hp => by cases hp⟩ kk
  · exact x.elim⟩
def vIR (i j : Int) (k : List U → Prop) : Prop := (-(2 ^ 62) ≤ i ∧ i < 2 ^ 62 ∧ -(2 ^ 62) ≤ j ∧ j < 2 ^ 62) ∧ k ((List.range (j - i).toNat).map fun (n : Nat) => U.int (i + n))
def vIR1 : V1o (List U)
  | .int j, _, k => vIR 0 j k
  | _, _, _ => False
def vIR2 : V2o (List U)
  | .int i, .int j, _, k => vIR i j k
  | _, _, _, _ => False
theorem lo_irange1 : LO1 K RU RIt 0 iRange1 vIR1 := ⟨fun {ok ah N X k a b} o q kk l x => by
  change R ok ah a b at q
  unfold vIR1 vIR at x
  split at x
  · rename_i j
    simp only [R] at q; subst q
    unfold iRange1
    simp only
    rw [if_pos ⟨x.1.2.2.1, x.1.2.2.2⟩]
    refine .okI x.2 ⟨?_, fun p hp => by cases hp⟩ kk
    have := Rs.range (ok := ok) (ah := ah) 0 j.toNat
    simpa using this
  · exact x.elim⟩
abbrev VTM := U → Option (List (Nat × U))
def setU (Γ : UEnv) : List (Nat × U) → UEnv
  | [] => Γ
  | (i, u) :: r => setU (Γ.set i (some u)) r
def setD (env : HA.Env) : List (Nat × D) → HA.Env
  | [] => env
  | (i, u) :: r => setD (env.set i (some u)) r
def Rb (ok : Nat → Prop) (ah : AH) (bs : List (Nat × U)) (cs : List (Nat × D)) : Prop := bs.map (·.1) = cs.map (·.1) ∧ Rs ok ah (bs.map (·.2)) (cs.map (·.2))
theorem setD_app (env : HA.Env) : ∀ (xs ys : List (Nat × D)), setD env (xs ++ ys) = setD (setD env xs) ys
  | [], ys => rfl
  | x :: xs, ys => setD_app _ xs ys
theorem setD_len (env : HA.Env) : ∀ (xs : List (Nat × D)), (setD env xs).length = env.length
  | [] => rfl
  | x :: xs => by unfold setD; rw [setD_len _ xs, List.length_set]
theorem setU_len (env : UEnv) : ∀ (xs : List (Nat × U)), (setU env xs).length = env.length
  | [] => rfl
  | x :: xs => by unfold setU; rw [setU_len _ xs, List.length_set]
theorem setD_ne (env : HA.Env) {j : Nat} : ∀ (xs : List (Nat × D)), (∀ x ∈ xs, x.1 ≠ j) → (setD env xs)[j]? = env[j]?
  | [], _ => rfl
  | x :: xs, h => by unfold setD; rw [setD_ne _ xs fun y hy => h y (List.mem_cons_of_mem _ hy), List.getElem?_set_ne (h x List.mem_cons_self)]
theorem setU_ne (env : UEnv) {j : Nat} : ∀ (xs : List (Nat × U)), (∀ x ∈ xs, x.1 ≠ j) → (setU env xs)[j]? = env[j]?
  | [], _ => rfl
  | x :: xs, h => by unfold setU; rw [setU_ne _ xs fun y hy => h y (List.mem_cons_of_mem _ hy), List.getElem?_set_ne (h x List.mem_cons_self)]
theorem EnvR.set1 {ok : Nat → Prop} {ah : AH} {Γ : UEnv} {env : HA.Env} (h : EnvR ok ah Γ env) (i : Nat) {u : U} {d : D} (r : R ok ah u d) : EnvR ok ah (Γ.set i (some u)) (env.set i (some d)) :=
  ⟨by simp [h.len], fun j v e => by
    by_cases hj : i = j
    · subst hj
      have hl : i < Γ.length := by have := (List.getElem?_eq_some_iff.mp e).1; simpa using this
      rw [List.getElem?_set_self hl] at e
      cases e
      exact ⟨d, by rw [List.getElem?_set_self (by rw [h.len]; exact hl)], r⟩
    · rw [List.getElem?_set_ne hj] at e ⊢
      exact h.at' j v e⟩
theorem EnvR.sets {ok : Nat → Prop} {ah : AH} : ∀ {bs : List (Nat × U)} {cs : List (Nat × D)} {Γ : UEnv} {env : HA.Env}, EnvR ok ah Γ env → Rb ok ah bs cs → EnvR ok ah (setU Γ bs) (setD env cs)
  | [], [], _, _, h, _ => h
  | [], _ :: _, _, _, _, r => by have := r.1; simp at this
  | _ :: _, [], _, _, _, r => by have := r.1; simp at this
  | (i, u) :: bs, (j, d) :: cs, Γ, env, h, ⟨e, r⟩ => by
    simp only [List.map_cons, List.cons.injEq] at e
    obtain ⟨rfl, e⟩ := e
    simp only [List.map_cons, Rs, List.cons.injEq] at r
    obtain ⟨_, _, ⟨rfl, rfl⟩, q, r⟩ := r
    show EnvR ok ah (setU (Γ.set i (some u)) bs) (setD (env.set i (some _)) cs)
    exact EnvR.sets (h.set1 i q) ⟨e, r⟩
structure LTg (tm : TM) (vt : VTM) (ts : List Nat) : Prop where
  to : ∀ {ok : Nat → Prop} {ah : AH} {u : U} {d : D} {bs : List (Nat × U)} (env : HA.Env), R ok ah u d → vt u = some bs → ∃ cs, tm d env ah = some (setD env cs) ∧ Rb ok ah bs cs ∧ ∀ x ∈ bs, x.1 ∈ ts
structure LTs (tm : List D → HA.Env → AH → Option HA.Env) (vt : List U → Option (List (Nat × U))) (ts : List Nat) : Prop where
  to : ∀ {ok : Nat → Prop} {ah : AH} {us : List U} {ds : List D} {bs : List (Nat × U)} (env : HA.Env), Rs ok ah us ds → vt us = some bs → ∃ cs, tm ds env ah = some (setD env cs) ∧ Rb ok ah bs cs ∧ ∀ x ∈ bs, x.1 ∈ ts
def tSet (i : Nat) : VTM := fun u => some [(i, u)]
def tNil : List U → Option (List (Nat × U)) := fun us => match us with
  | [] => some []
  | _ => none
def tCons (t : VTM) (r : List U → Option (List (Nat × U))) : List U → Option (List (Nat × U)) := fun us => match us with
  | u :: us => (t u).bind fun a => (r us).map fun b => a ++ b
  | [] => none
def tTup (n : Nat) (r : List U → Option (List (Nat × U))) : VTM := fun u => match u with
  | .tup us => if us.length = n then r us else none
  | _ => none
theorem lt_set (i : Nat) : LTg (gSet i) (tSet i) [i] := ⟨fun {ok ah u d bs} env r e => by
  unfold tSet at e
  cases e
  exact ⟨[(i, d)], rfl, ⟨rfl, Rs.cons r Rs.nil⟩, by simp⟩⟩
theorem lt_nil : LTs gNilD tNil [] := ⟨fun {ok ah u d bs} env r e => by
  unfold tNil at e
  split at e
  · cases e
    simp only [Rs] at r
    subst r
    exact ⟨[], rfl, ⟨rfl, Rs.nil⟩, by simp⟩
  · cases e⟩
theorem lt_cons {tm : TM} {vt : VTM} {ts ts' : List Nat} {um : List D → HA.Env → AH → Option HA.Env} {vu : List U → Option (List (Nat × U))} (h : LTg tm vt ts) (h' : LTs um vu ts') : LTs (gConsD tm um) (tCons vt vu) (ts ++ ts') := ⟨fun {ok ah us ds bs} env r e => by
  unfold tCons at e
  split at e
  · rename_i u us
    rw [Option.bind_eq_some_iff] at e
    obtain ⟨a, e1, e⟩ := e
    rw [Option.map_eq_some_iff] at e
    obtain ⟨b, e2, rfl⟩ := e
    simp only [Rs] at r
    obtain ⟨d, es, rfl, q, r⟩ := r
    obtain ⟨cs, h1, h2, h3⟩ := h.to env q e1
    obtain ⟨cs', h1', h2', h3'⟩ := h'.to (setD env cs) r e2
    refine ⟨cs ++ cs', ?_, ⟨by rw [List.map_append, List.map_append, h2.1, h2'.1], by rw [List.map_append, List.map_append]; exact h2.2.app h2'.2⟩, fun x hx => ?_⟩
    · unfold gConsD
      simp only [h1, Option.bind_some, h1', setD_app]
    · rw [List.mem_append] at hx ⊢
      exact hx.imp (h3 x) (h3' x)
  · cases e⟩
theorem lt_tup {n : Nat} {ts : List Nat} {um : List D → HA.Env → AH → Option HA.Env} {vu : List U → Option (List (Nat × U))} (h : LTs um vu ts) : LTg (gTupD n um) (tTup n vu) ts := ⟨fun {ok ah u d bs} env r e => by
  unfold tTup at e
  split at e
  · split at e
    · rename_i us hl
      simp only [R] at r
      obtain ⟨ds, rfl, r⟩ := r
      obtain ⟨cs, h1, h2⟩ := h.to env r e
      refine ⟨cs, ?_, h2⟩
      unfold gTupD
      simp only
      rw [if_pos (by rw [← r.len]; exact hl), h1]
    · cases e
  · cases e⟩
def wipeU (Γ : UEnv) : List Nat → UEnv
  | [] => Γ
  | v :: vs => (wipeU Γ vs).set v none
theorem EnvR.unset {ok : Nat → Prop} {ah : AH} {Γ : UEnv} {env : HA.Env} (h : EnvR ok ah Γ env) (i : Nat) (x : Option D) : EnvR ok ah (Γ.set i none) (env.set i x) :=
  ⟨by simp [h.len], fun j v e => by
    by_cases hj : i = j
    · subst hj
      have hl : i < Γ.length := by have := (List.getElem?_eq_some_iff.mp e).1; simpa using this
      rw [List.getElem?_set_self hl] at e
      cases e
    · rw [List.getElem?_set_ne hj] at e ⊢
      exact h.at' j v e⟩
theorem EnvR.wipe {ok : Nat → Prop} {ah : AH} {Γ : UEnv} {env : HA.Env} (h : EnvR ok ah Γ env) : ∀ vs : List Nat, EnvR ok ah (wipeU Γ vs) (wipeE env vs)
  | [] => h
  | v :: vs => (EnvR.wipe h vs).unset v none
def XF : ExK := fun _ _ => False
def vLcL (vt : VTM) (pt : VE Bool) (pe : VE U) (Γ : UEnv) : List U → (List U → Prop) → Prop
  | [], k => k []
  | u :: us, k => match vt u with
    | some bs => pt (setU Γ bs) XF fun t => if t = true then pe (setU Γ bs) XF fun y => vLcL vt pt pe Γ us fun ys => k (y :: ys) else vLcL vt pt pe Γ us k
    | none => False
def vLc (pi : VE (List U)) (vt : VTM) (pt : VE Bool) (pe : VE U) (vs : List Nat) : VE (List U) := fun Γ X k => pi Γ X fun us => us.length ≤ line ∧ vLcL vt pt pe (wipeU Γ vs) us k
theorem lcLoop_V {c c' : Nat} {t : Itm} {tm : TM} {vt : VTM} {ts : List Nat} {test : EM Bool} {elt : EM D} {pt : VE Bool} {pe : VE U} {vs : List Nat} {env : HA.Env} {Γ : UEnv} {ok : Nat → Prop} {X : ExK} (hT : LTg tm vt ts) (ht : LE K (REq Bool) c test pt) (he : LE K RU c' elt pe) :
    ∀ (us : List U) (ds : List D) (ua : List U) (acc : List D) (ah : AH) (N : Nat) (k : List U → Prop), OkF ok ah → EnvR ok ah Γ env → K.at' N ah → (∀ p, p ∈ t.guard → ok p.1 ∧ ah[p.1]? = some (.lst p.2)) → N + us.length * cb (sq c c') ≤ LIM → Rs ok ah us ds → Rs ok ah ua acc → acc.length + us.length ≤ line → (vLcL vt pt pe (wipeU Γ vs) us fun ys => k (ua ++ ys)) → PR K ok ah (N + us.length * cb (sq c c')) RUs X k (lcLoop t tm test elt vs env ds acc ah)
  | [], ds, ua, acc, ah, N, k, o, e, kk, hg, l, r, ra, hl, x => by
    simp only [Rs] at r
    subst r
    unfold lcLoop
    rw [if_pos (okIn_of fun p hp => (hg p hp).2)]
    unfold vLcL at x
    rw [List.append_nil] at x
    exact .okI x ra (by simpa using kk)
  | u :: us, ds, ua, acc, ah, N, k, o, e, kk, hg, l, r, ra, hl, x => by
    simp only [Rs] at r
    obtain ⟨d, ds, rfl, q, r⟩ := r
    have s := cb_sq c c'
    rw [List.length_cons, Nat.add_mul, Nat.one_mul] at l
    rw [List.length_cons] at hl
    unfold vLcL at x
    split at x
    · rename_i bs hb
      obtain ⟨cs, h1, h2, _⟩ := hT.to (wipeE env vs) q hb
      have e1 : EnvR ok ah (setU (wipeU Γ vs) bs) (setD (wipeE env vs) cs) := (e.wipe vs).sets h2
      unfold lcLoop
      rw [if_pos ⟨okIn_of fun p hp => (hg p hp).2, by omega⟩, h1]
      simp only
      have w := ht.to o e1 kk (by omega) x
      cases z : test (setD (wipeE env vs) cs) ah with
      | stuck => rw [z] at w; exact w.elim
      | exn a f h => rw [z] at w; obtain ⟨f, y, _⟩ := w; exact y.elim
      | ok b ah1 =>
        rw [z] at w
        obtain ⟨b', kb, rfl, g, k1⟩ := w
        have o1 := o.grow g
        have hg1 : ∀ p, p ∈ t.guard → ok p.1 ∧ ah1[p.1]? = some (.lst p.2) := fun p hp => ⟨(hg p hp).1, g.sta o _ _ (hg p hp).1 (hg p hp).2⟩
        cases b' with
        | true =>
          simp only [if_true] at kb ⊢
          have w := he.to o1 (e1.grow o g) k1 (by omega) kb
          cases z : elt (setD (wipeE env vs) cs) ah1 with
          | stuck => rw [z] at w; exact w.elim
          | exn a f h => rw [z] at w; obtain ⟨f, y, _⟩ := w; exact y.elim
          | ok y ah2 =>
            rw [z] at w
            obtain ⟨y', ky, qy, g2, k2⟩ := w
            have gg := g.trans g2
            have := lcLoop_V (X := X) hT ht he us ds (ua ++ [y']) (acc ++ [y]) ah2 (N + cb c + cb c') k (o1.grow g2) (e.grow o gg) k2 (fun p hp => ⟨(hg p hp).1, gg.sta o _ _ (hg p hp).1 (hg p hp).2⟩) (by omega) (r.grow o gg) ((ra.grow o gg).app (Rs.cons qy Rs.nil)) (by rw [List.length_append, List.length_singleton]; omega) (by simpa [List.append_assoc] using ky)
            simp only
            exact PR.le (M := N + (us.length + 1) * cb (sq c c')) (by
              exact this.after gg) (by rw [Nat.add_mul, Nat.one_mul]; omega)
        | false =>
          simp only [Bool.false_eq_true, if_false] at kb ⊢
          have := lcLoop_V (X := X) hT ht he us ds ua acc ah1 (N + cb c) k o1 (e.grow o g) k1 hg1 (by omega) (r.grow o g) (ra.grow o g) (by omega) kb
          exact PR.le (M := N + (us.length + 1) * cb (sq c c')) (by
              exact this.after g) (by rw [Nat.add_mul, Nat.one_mul]; omega)
    · exact x.elim
theorem le_lc {ci c c' : Nat} {mi : EM Itm} {pi : VE (List U)} {tm : TM} {vt : VTM} {ts : List Nat} {test : EM Bool} {elt : EM D} {pt : VE Bool} {pe : VE U} {vs : List Nat} (hi : LE K RIt ci mi pi) (hT : LTg tm vt ts) (ht : LE K (REq Bool) c test pt) (he : LE K RU c' elt pe) : LE K RUs (sq ci (lp (sq c c'))) (lLc mi tm test elt vs) (vLc pi vt pt pe vs) := ⟨fun {ok Γ env ah N X k} o e kk l x => by
  have s := cb_sq ci (lp (sq c c'))
  refine PR.bind (hi.to o e kk (by omega) x) (by omega) fun us t ah1 ⟨hl, ka⟩ ⟨q, hg⟩ g k1 => ?_
  have b := cb_lp (sq c c') us.length hl
  refine (lcLoop_V hT ht he us t.items [] [] ah1 (N + cb ci) k (o.grow g) (e.grow o g) k1 hg (by omega) q Rs.nil (by simpa using hl) (by simpa using ka)).le (by omega)⟩
end
end HV
namespace HV
open PySem PySem.Spec PyProof.Rows L2 HA
structure SK where
  nx : UEnv → Prop
  rt : U → Prop
  bk : UEnv → Prop
  ct : UEnv → Prop
  ex : Str → EF → UEnv → Prop
abbrev VS := UEnv → SK → Prop
def av (ok : Nat → Prop) (env : HA.Env) (own : List Nat) : Nat → Prop := fun n => ok n ∧ ∀ i, i ∈ own → env[i]? ≠ some (some (.ref n))
structure OkB (ok : Nat → Prop) (b : Nat) : Prop where
  three : ∀ n, ok n → 3 ≤ n
  fresh : ∀ n, b ≤ n → ok n
structure StR (ok : Nat → Prop) (b : Nat) (own : List Nat) (Γ : UEnv) (env : HA.Env) (ah : AH) : Prop where
  len : env.length = Γ.length
  bl : b ≤ ah.length
  sh : ∀ (i : Nat) (u : U), i ∉ own → Γ[i]? = some (some u) → ∃ d, env[i]? = some (some d) ∧ R (av ok env own) ah u d
  ow : ∀ i, i ∈ own → ∃ n o u, env[i]? = some (some (.ref n)) ∧ b ≤ n ∧ ah[n]? = some o ∧ Γ[i]? = some (some u) ∧ OR (av ok env own) ah u o
  inj : ∀ (i j n : Nat), i ∈ own → j ∈ own → env[i]? = some (some (.ref n)) → env[j]? = some (some (.ref n)) → i = j
structure PreS (b : Nat) (own : List Nat) (env : HA.Env) (ah : AH) (own' : List Nat) (env' : HA.Env) (ah' : AH) : Prop where
  len : ah.length ≤ ah'.length
  same : ∀ n, 3 ≤ n → n < ah.length → (∀ i, i ∈ own → env[i]? ≠ some (some (.ref n))) → ah'[n]? = ah[n]?
  old : ∀ n, 3 ≤ n → n < b → ah'[n]? = ah[n]?
  refs : ∀ i n, i ∈ own' → env'[i]? = some (some (.ref n)) → n < ah.length → ∃ j, j ∈ own ∧ env[j]? = some (some (.ref n))
structure GrowB (b : Nat) (ah ah' : AH) : Prop where
  len : ah.length ≤ ah'.length
  old : ∀ n, 3 ≤ n → n < b → ah'[n]? = ah[n]?
section
variable {ok : Nat → Prop} {b : Nat} {own own' own1 : List Nat} {Γ : UEnv} {env env' env1 : HA.Env} {ah ah' ah1 : AH}
theorem PreS.trans (h : PreS b own env ah own1 env1 ah1) (k : PreS b own1 env1 ah1 own' env' ah') : PreS b own env ah own' env' ah' :=
  ⟨Nat.le_trans h.len k.len, fun n h3 hn hne => by
    rw [k.same n h3 (Nat.lt_of_lt_of_le hn h.len) fun i hi e => ?_, h.same n h3 hn hne]
    obtain ⟨j, hj, ej⟩ := h.refs i n hi e hn
    exact hne j hj ej, fun n h3 hn => (k.old n h3 hn).trans (h.old n h3 hn), fun i n hi e hn => by
    obtain ⟨j, hj, ej⟩ := k.refs i n hi e (Nat.lt_of_lt_of_le hn h.len)
    exact h.refs j n hj ej hn⟩
theorem PreS.growB (h : PreS b own env ah own' env' ah') : GrowB b ah ah' := ⟨h.len, h.old⟩
theorem PreS.ofGrow (g : Grow ah ah') (hb : b ≤ ah.length) (hs : own' ⊆ own) : PreS b own env ah own' env ah' :=
  ⟨g.len, fun n h3 hn _ => g.same n h3 hn, fun n h3 hn => g.same n h3 (by omega), fun i n hi e _ => ⟨i, hs hi, e⟩⟩
theorem GrowB.trans {a c d : AH} (h : GrowB b a c) (k : GrowB b c d) : GrowB b a d := ⟨Nat.le_trans h.len k.len, fun n h3 hn => (k.old n h3 hn).trans (h.old n h3 hn)⟩
theorem StR.okf (S : StR ok b own Γ env ah) (o : OkB ok b) : OkF ok ah := ⟨o.three, fun n hn => o.fresh n (Nat.le_trans S.bl hn)⟩
theorem StR.okav (S : StR ok b own Γ env ah) (o : OkB ok b) : OkF (av ok env own) ah := ⟨fun n h => o.three n h.1, fun n hn => ⟨o.fresh n (Nat.le_trans S.bl hn), fun i hi e => by
  obtain ⟨m, ob, u, e1, _, e2, _⟩ := S.ow i hi
  rw [e1] at e
  cases e
  have := (List.getElem?_eq_some_iff.mp e2).1
  omega⟩⟩
theorem Sta.refl {ok : Nat → Prop} {ah : AH} : Sta ok ah ah := fun _ _ _ h => h
mutual
theorem R.inb {ok : Nat → Prop} {ah : AH} : ∀ (u : U) (d : D), R ok ah u d → R (fun m => ok m ∧ m < ah.length) ah u d
  | .non, _, h => by simp only [R] at h ⊢; exact h
  | .bl b, _, h => by simp only [R] at h ⊢; exact h
  | .int b, _, h => by simp only [R] at h ⊢; exact h
  | .str b, _, h => by simp only [R] at h ⊢; exact h
  | .cst b, _, h => by simp only [R] at h ⊢; exact h
  | .glo b, _, h => by simp only [R] at h ⊢; exact h
  | .xv a e ks us, _, h => by simp only [R] at h ⊢; obtain ⟨ds, e, r⟩ := h; exact ⟨ds, e, Rs.inb us ds r⟩
  | .ref b, _, h => by simp only [R] at h ⊢; exact h
  | .tup us, _, h => by simp only [R] at h ⊢; obtain ⟨ds, e, r⟩ := h; exact ⟨ds, e, Rs.inb us ds r⟩
  | .lst us, _, h => by simp only [R] at h ⊢; obtain ⟨n, ds, e, o, q, r⟩ := h; exact ⟨n, ds, e, ⟨o, (List.getElem?_eq_some_iff.mp q).1⟩, q, Rs.inb us ds r⟩
  | .dK ks us, _, h => by simp only [R] at h ⊢; obtain ⟨n, ds, e, o, q, z, r⟩ := h; exact ⟨n, ds, e, ⟨o, (List.getElem?_eq_some_iff.mp q).1⟩, q, z, Rs.inb us _ r⟩
  | .dT ks us, _, h => by simp only [R] at h ⊢; obtain ⟨n, ds, e, o, q, z, r⟩ := h; exact ⟨n, ds, e, ⟨o, (List.getElem?_eq_some_iff.mp q).1⟩, q, z, Rs.inb us _ r⟩
  | .ins C ks us, _, h => by simp only [R] at h ⊢; obtain ⟨n, ds, e, o, q, z, r⟩ := h; exact ⟨n, ds, e, ⟨o, (List.getElem?_eq_some_iff.mp q).1⟩, q, z, Rs.inb us _ r⟩
theorem Rs.inb {ok : Nat → Prop} {ah : AH} : ∀ (us : List U) (ds : List D), Rs ok ah us ds → Rs (fun m => ok m ∧ m < ah.length) ah us ds
  | [], _, h => by simp only [Rs] at h ⊢; exact h
  | u :: us, _, h => by simp only [Rs] at h ⊢; obtain ⟨d, es, e, q, r⟩ := h; exact ⟨d, es, e, R.inb u d q, Rs.inb us es r⟩
end
theorem OR.inb {ok : Nat → Prop} {ah : AH} {u : U} {o : AObj} (h : OR ok ah u o) : OR (fun m => ok m ∧ m < ah.length) ah u o := by
  unfold OR at h ⊢
  split at h
  · exact Rs.inb _ _ h
  · exact ⟨h.1, Rs.inb _ _ h.2⟩
  · exact ⟨h.1, Rs.inb _ _ h.2⟩
  · exact ⟨h.1, h.2.1, Rs.inb _ _ h.2.2⟩
  · exact h
def eraseU : List Nat → UEnv → UEnv
  | [], Γ => Γ
  | i :: r, Γ => eraseU r (Γ.set i none)
theorem eraseU_len : ∀ (own : List Nat) (Γ : UEnv), (eraseU own Γ).length = Γ.length
  | [], _ => rfl
  | i :: r, Γ => by unfold eraseU; rw [eraseU_len r, List.length_set]
theorem eraseU_some : ∀ (own : List Nat) (Γ : UEnv) (j : Nat) (u : U), (eraseU own Γ)[j]? = some (some u) → j ∉ own ∧ Γ[j]? = some (some u)
  | [], _, j, u, h => ⟨by simp, h⟩
  | i :: r, Γ, j, u, h => by
    unfold eraseU at h
    obtain ⟨h1, h2⟩ := eraseU_some r _ j u h
    by_cases hj : i = j
    · subst hj
      have hl : i < Γ.length := by have := (List.getElem?_eq_some_iff.mp h2).1; simpa using this
      rw [List.getElem?_set_self hl] at h2
      cases h2
    · rw [List.getElem?_set_ne hj] at h2
      exact ⟨by simp only [List.mem_cons, not_or]; exact ⟨fun e => hj e.symm, h1⟩, h2⟩
theorem StR.toEnv (S : StR ok b own Γ env ah) (o : OkB ok b) : EnvR ok ah Γ env := ⟨S.len, fun i u e => by
  by_cases hi : i ∈ own
  · obtain ⟨n, ob, v, e1, e2, e3, e4, e5⟩ := S.ow i hi
    rw [e] at e4
    cases e4
    exact ⟨_, e1, (e5.mono (fun _ h => h.1) Sta.refl).to (o.fresh n e2) e3⟩
  · obtain ⟨d, e1, r⟩ := S.sh i u hi e
    exact ⟨d, e1, R.mono (fun _ h => h.1) Sta.refl _ _ r⟩⟩
theorem StR.clean (S : StR ok b own Γ env ah) : EnvR (av ok env own) ah (eraseU own Γ) env := ⟨by rw [eraseU_len, S.len], fun i u e => by
  obtain ⟨h1, h2⟩ := eraseU_some own Γ i u e
  exact S.sh i u h1 h2⟩
theorem StR.grow (S : StR ok b own Γ env ah) (o : OkB ok b) (g : Grow ah ah') : StR ok b own Γ env ah' :=
  have s := g.sta (S.okav o)
  ⟨S.len, Nat.le_trans S.bl g.len, fun i u hi e => let ⟨d, e1, r⟩ := S.sh i u hi e; ⟨d, e1, R.mono (fun _ h => h) s _ _ r⟩, fun i hi => by
    obtain ⟨n, ob, v, e1, e2, e3, e4, e5⟩ := S.ow i hi
    have hn := (List.getElem?_eq_some_iff.mp e3).1
    exact ⟨n, ob, v, e1, e2, by rw [g.same n (o.three n (o.fresh n e2)) hn]; exact e3, e4, e5.mono (fun _ h => h) s⟩, S.inj⟩
theorem av_mono (h : ∀ i, i ∈ own' → i ∈ own) {n : Nat} (a : av ok env own n) : av ok env own' n := ⟨a.1, fun i hi => a.2 i (h i hi)⟩
theorem StR.drop (S : StR ok b own Γ env ah) (o : OkB ok b) (h : own' ⊆ own) : StR ok b own' Γ env ah :=
  ⟨S.len, S.bl, fun i u hi e => by
    by_cases hi' : i ∈ own
    · obtain ⟨n, ob, v, e1, e2, e3, e4, e5⟩ := S.ow i hi'
      rw [e] at e4
      cases e4
      refine ⟨_, e1, (e5.mono (fun n a => av_mono (fun i hi => h hi) a) Sta.refl).to ⟨o.fresh n e2, fun j hj ej => ?_⟩ e3⟩
      exact hi (S.inj i j n hi' (h hj) e1 ej ▸ hj)
    · obtain ⟨d, e1, r⟩ := S.sh i u hi' e
      exact ⟨d, e1, R.mono (fun n a => av_mono (fun i hi => h hi) a) Sta.refl _ _ r⟩, fun i hi => by
    obtain ⟨n, ob, v, e1, e2, e3, e4, e5⟩ := S.ow i (h hi)
    exact ⟨n, ob, v, e1, e2, e3, e4, e5.mono (fun n a => av_mono (fun i hi => h hi) a) Sta.refl⟩, fun i j n hi hj => S.inj i j n (h hi) (h hj)⟩
theorem av_env (h : ∀ i, i ∈ own → env'[i]? = env[i]?) {n : Nat} (a : av ok env own n) : av ok env' own n := ⟨a.1, fun i hi => by rw [h i hi]; exact a.2 i hi⟩
theorem StR.sets {bs : List (Nat × U)} {cs : List (Nat × D)} (S : StR ok b own Γ env ah) (r : Rb (av ok env own) ah bs cs) (hn : ∀ x ∈ bs, x.1 ∉ own) : StR ok b own (setU Γ bs) (setD env cs) ah := by
  have hc : ∀ x ∈ cs, x.1 ∉ own := fun x hx => by
    have : x.1 ∈ bs.map (·.1) := by rw [r.1]; exact List.mem_map_of_mem hx
    obtain ⟨y, hy, e⟩ := List.mem_map.mp this
    rw [← e]; exact hn y hy
  have sameD : ∀ i, i ∈ own → (setD env cs)[i]? = env[i]? := fun i hi => setD_ne env cs fun x hx e => hc x hx (e ▸ hi)
  have sameU : ∀ i, i ∈ own → (setU Γ bs)[i]? = Γ[i]? := fun i hi => setU_ne Γ bs fun x hx e => hn x hx (e ▸ hi)
  have e1 : EnvR (av ok env own) ah (eraseU own Γ) env := S.clean
  have up : ∀ n, av ok env own n → av ok (setD env cs) own n := fun n a => av_env sameD a
  refine ⟨by rw [setD_len, setU_len, S.len], S.bl, fun i u hi e => ?_, fun i hi => ?_, fun i j n hi hj h1 h2 => ?_⟩
  · -- a shared one, set or not
    have key : ∀ (bs : List (Nat × U)) (cs : List (Nat × D)) (Γ : UEnv) (env' : HA.Env), Rb (av ok env own) ah bs cs → env'.length = Γ.length → (∀ i u, i ∉ own → Γ[i]? = some (some u) → ∃ d, env'[i]? = some (some d) ∧ R (av ok env own) ah u d) → ∀ i u, i ∉ own → (setU Γ bs)[i]? = some (some u) → ∃ d, (setD env' cs)[i]? = some (some d) ∧ R (av ok env own) ah u d := by
      intro bs
      induction bs with
      | nil =>
        intro cs Γ env' r hl h i u hi e
        cases cs with
        | nil => exact h i u hi e
        | cons c cs => have := r.1; simp at this
      | cons x bs ih =>
        intro cs Γ env' r hl h i u hi e
        cases cs with
        | nil => have := r.1; simp at this
        | cons c cs =>
          obtain ⟨j, v⟩ := x
          obtain ⟨j', d⟩ := c
          have r1 := r.1
          have r2 := r.2
          simp only [List.map_cons, List.cons.injEq] at r1
          simp only [List.map_cons, Rs, List.cons.injEq] at r2
          obtain ⟨rfl, r1⟩ := r1
          obtain ⟨_, _, ⟨rfl, rfl⟩, q, r2⟩ := r2
          refine ih cs (Γ.set j (some v)) (env'.set j (some d)) ⟨r1, r2⟩ (by simp [hl]) (fun i u hi e => ?_) i u hi e
          by_cases hj : j = i
          · subst hj
            have hlt : j < Γ.length := by have := (List.getElem?_eq_some_iff.mp e).1; simpa using this
            rw [List.getElem?_set_self hlt] at e
            cases e
            exact ⟨d, by rw [List.getElem?_set_self (by rw [hl]; exact hlt)], q⟩
          · rw [List.getElem?_set_ne hj] at e ⊢
            exact h i u hi e
    obtain ⟨d, h1, h2⟩ := key bs cs Γ env r S.len S.sh i u hi e
    exact ⟨d, h1, R.mono up Sta.refl _ _ h2⟩
  · obtain ⟨n, ob, v, e1, e2, e3, e4, e5⟩ := S.ow i hi
    exact ⟨n, ob, v, by rw [sameD i hi]; exact e1, e2, e3, by rw [sameU i hi]; exact e4, e5.mono up Sta.refl⟩
  · rw [sameD i hi] at h1
    rw [sameD j hj] at h2
    exact S.inj i j n hi hj h1 h2
theorem StR.new {i n : Nat} {u : U} {o : AObj} (S : StR ok b own Γ env ah) (O : OkB ok b) (g : Grow ah ah') (hn : ah.length ≤ n) (e : ah'[n]? = some o) (r : OR (fun m => av ok env own m ∧ m ≠ n) ah' u o) (hi : i < env.length) (hs : own' ⊆ i :: own) : StR ok b own' (Γ.set i (some u)) (env.set i (some (.ref n))) ah' := by
  have S' := S.grow O g
  have fresh : ∀ j, j ∈ own → env[j]? ≠ some (some (.ref n)) := fun j hj e => by
    obtain ⟨m, ob, v, e1, e2, e3, e4, e5⟩ := S.ow j hj
    rw [e1] at e
    cases e
    have := (List.getElem?_eq_some_iff.mp e3).1
    omega
  have atI : (env.set i (some (D.ref n)))[i]? = some (some (.ref n)) := List.getElem?_set_self hi
  have ne : ∀ j, i ≠ j → (env.set i (some (D.ref n)))[j]? = env[j]? := fun j h => List.getElem?_set_ne h
  have up : ∀ m, (av ok env own m ∧ m ≠ n) → av ok (env.set i (some (.ref n))) own' m := fun m a => ⟨a.1.1, fun j hj e => by
    by_cases h : i = j
    · subst h; rw [atI] at e; cases e; exact a.2 rfl
    · rw [ne j h] at e
      rcases List.mem_cons.mp (hs hj) with h' | h'
      · exact h h'.symm
      · exact a.1.2 j h' e⟩
  have stay : Sta (av ok env own) ah ah' := g.sta (S.okav O)
  have upR : ∀ (u : U) (d : D), R (av ok env own) ah u d → R (av ok (env.set i (some (.ref n))) own') ah' u d := fun u d h => by
    have h2 : R (fun m => av ok env own m ∧ m < ah.length) ah u d := R.inb u d h
    exact R.mono (fun m a => up m ⟨a.1, by have := a.2; omega⟩) (fun m o a e => stay m o a.1 e) u d h2
  refine ⟨by simp [S.len], Nat.le_trans S.bl g.len, fun j v hj ej => ?_, fun j hj => ?_, fun j k m hj hk e1 e2 => ?_⟩
  · by_cases h : i = j
    · subst h
      have hl : i < Γ.length := by rw [← S.len]; exact hi
      rw [List.getElem?_set_self hl] at ej
      cases ej
      refine ⟨_, atI, (r.mono (fun m a => up m a) Sta.refl).to ⟨O.fresh n (Nat.le_trans S.bl hn), fun k hk ek => ?_⟩ e⟩
      by_cases h' : i = k
      · subst h'; exact hj hk
      · rw [ne k h'] at ek
        rcases List.mem_cons.mp (hs hk) with z | z
        · exact h' z.symm
        · exact fresh k z ek
    · rw [List.getElem?_set_ne h] at ej
      by_cases hjo : j ∈ own
      · obtain ⟨m, ob, v', e1, e2, e3, e4, e5⟩ := S.ow j hjo
        rw [ej] at e4
        cases e4
        have hm := (List.getElem?_eq_some_iff.mp e3).1
        refine ⟨_, by rw [ne j h]; exact e1, ?_⟩
        have e3' : ah'[m]? = some ob := by rw [g.same m (O.three m (O.fresh m e2)) hm]; exact e3
        have e5' := OR.inb e5
        refine (e5'.mono (ok' := av ok (env.set i (some (.ref n))) own') (fun m a => up m ⟨a.1, by have := a.2; omega⟩) (fun m o a e => stay m o a.1 e)).to ⟨O.fresh m e2, fun k hk ek => ?_⟩ e3'
        by_cases h' : i = k
        · subst h'; rw [atI] at ek; cases ek; omega
        · rw [ne k h'] at ek
          rcases List.mem_cons.mp (hs hk) with z | z
          · exact h' z.symm
          · exact hj (S.inj j k m hjo z e1 ek ▸ hk)
      · obtain ⟨d, e1, q⟩ := S.sh j v hjo ej
        exact ⟨d, by rw [ne j h]; exact e1, upR v d q⟩
  · by_cases h : i = j
    · subst h
      have hl : i < Γ.length := by rw [← S.len]; exact hi
      exact ⟨n, o, u, atI, Nat.le_trans S.bl hn, e, List.getElem?_set_self hl, r.mono (fun m a => up m a) Sta.refl⟩
    · have hjo : j ∈ own := by
        rcases List.mem_cons.mp (hs hj) with z | z
        · exact absurd z.symm h
        · exact z
      obtain ⟨m, ob, v', e1, e2, e3, e4, e5⟩ := S.ow j hjo
      have hm := (List.getElem?_eq_some_iff.mp e3).1
      refine ⟨m, ob, v', by rw [ne j h]; exact e1, e2, by rw [g.same m (O.three m (O.fresh m e2)) hm]; exact e3, by rw [List.getElem?_set_ne h]; exact e4, ?_⟩
      exact (OR.inb e5).mono (fun m a => up m ⟨a.1, by have := a.2; omega⟩) (fun m o a e => stay m o a.1 e)
  · have low : ∀ k, k ∈ own' → i ≠ k → ∀ m, env[k]? = some (some (.ref m)) → m < ah.length := fun k hk hne m e => by
      rcases List.mem_cons.mp (hs hk) with z | z
      · exact absurd z.symm hne
      · obtain ⟨m', ob, v', e1, e2, e3, e4, e5⟩ := S.ow k z
        rw [e1] at e
        cases e
        exact (List.getElem?_eq_some_iff.mp e3).1
    by_cases h1 : i = j
    · by_cases h2 : i = k
      · rw [← h1, ← h2]
      · subst h1
        rw [atI] at e1
        cases e1
        rw [ne k h2] at e2
        have := low k hk h2 n e2
        omega
    · by_cases h2 : i = k
      · subst h2
        rw [atI] at e2
        cases e2
        rw [ne j h1] at e1
        have := low j hj h1 n e1
        omega
      · rw [ne j h1] at e1
        rw [ne k h2] at e2
        have m1 : j ∈ own := by
          rcases List.mem_cons.mp (hs hj) with z | z
          · exact absurd z.symm h1
          · exact z
        have m2 : k ∈ own := by
          rcases List.mem_cons.mp (hs hk) with z | z
          · exact absurd z.symm h2
          · exact z
        exact S.inj j k m m1 m2 e1 e2
end
end HV
namespace HV
open PySem PySem.Spec PyProof.Rows L2 HA
section
variable {ok : Nat → Prop} {b : Nat} {own own' own1 : List Nat} {Γ : UEnv} {env env' env1 : HA.Env} {ah ah' ah1 : AH}
theorem StR.mut {i n : Nat} {u : U} {o : AObj} (S : StR ok b own Γ env ah) (O : OkB ok b) (hi : i ∈ own) (e : env[i]? = some (some (.ref n))) (r : OR (av ok env own) ah u o) : StR ok b own (Γ.set i (some u)) env (ah.set n o) ∧ PreS b own env ah own env (ah.set n o) := by
  obtain ⟨m, ob, v, e1, e2, e3, e4, e5⟩ := S.ow i hi
  rw [e] at e1
  cases e1
  have hl := (List.getElem?_eq_some_iff.mp e3).1
  have hiΓ := (List.getElem?_eq_some_iff.mp e4).1
  have stay : Sta (av ok env own) ah (ah.set n o) := fun k ob a ek => by
    rw [List.getElem?_set_ne (fun z => a.2 i hi (by rw [← z]; exact e))]; exact ek
  refine ⟨⟨by simp [S.len], by rw [List.length_set]; exact S.bl, fun j w hj ej => ?_, fun j hj => ?_, S.inj⟩, ⟨by simp, fun k h3 hk hne => List.getElem?_set_ne (fun z => hne i hi (by rw [← z]; exact e)), fun k h3 hk => List.getElem?_set_ne (by omega), fun j k hj ej _ => ⟨j, hj, ej⟩⟩⟩
  · have hij : i ≠ j := fun z => hj (z ▸ hi)
    rw [List.getElem?_set_ne hij] at ej
    obtain ⟨d, d1, d2⟩ := S.sh j w hj ej
    exact ⟨d, d1, R.mono (fun _ h => h) stay _ _ d2⟩
  · by_cases hij : i = j
    · subst hij
      exact ⟨n, o, u, e, e2, by rw [List.getElem?_set_self hl], List.getElem?_set_self hiΓ, r.mono (fun _ h => h) stay⟩
    · obtain ⟨m, ob', v', f1, f2, f3, f4, f5⟩ := S.ow j hj
      exact ⟨m, ob', v', f1, f2, by rw [List.getElem?_set_ne (fun z => hij (S.inj i j n hi hj e (by rw [z]; exact f1)))]; exact f3, by rw [List.getElem?_set_ne hij]; exact f4, f5.mono (fun _ h => h) stay⟩
end
theorem Dks.set {K : Dks} {N n : Nat} {ah : AH} {o : AObj} (h : K.at' N ah) (h3 : 3 ≤ n) : K.at' N (ah.set n o) := K.stay h (by rw [List.length_set]; exact K.len h) fun m hm => List.getElem?_set_ne (by omega)
def eok (E : Option (List Nat)) (own : List Nat) : Bool := match E with
  | none => true
  | some ow => ow.all fun i => own.contains i
theorem eok_sub {ow own : List Nat} (h : eok (some ow) own = true) : ow ⊆ own := fun i hi => by
  unfold eok at h
  rw [List.all_eq_true] at h
  simpa using h i hi
def sub (a b : List Nat) : Bool := a.all fun i => b.contains i
theorem sub_sub {a b : List Nat} (h : sub a b = true) : a ⊆ b := fun i hi => by
  unfold sub at h
  rw [List.all_eq_true] at h
  simpa using h i hi
def dis (a b : List Nat) : Bool := a.all fun i => !b.contains i
theorem dis_not {a b : List Nat} (h : dis a b = true) {i : Nat} (hi : i ∈ a) : i ∉ b := by
  unfold dis at h
  rw [List.all_eq_true] at h
  simpa using h i hi
def RetR (F : Bool) (ok : Nat → Prop) (b : Nat) (ah : AH) (u : U) (d : D) : Prop := match F with
  | true => ∃ n o, d = .ref n ∧ b ≤ n ∧ ah[n]? = some o ∧ OR (fun m => ok m ∧ m ≠ n) ah u o
  | false => R ok ah u d
section
variable (K : Dks) (F : Bool) (L : List Nat) (E : Option (List Nat))
def PSR (ok : Nat → Prop) (b : Nat) (own : List Nat) (env : HA.Env) (ah : AH) (own' : List Nat) (N : Nat) (S : SK) : SRes → Prop
  | .nx env' ah' => ∃ Γ', S.nx Γ' ∧ StR ok b own' Γ' env' ah' ∧ PreS b own env ah own' env' ah' ∧ K.at' N ah'
  | .rt d ah' => ∃ u, S.rt u ∧ RetR F ok b ah' u d ∧ GrowB b ah ah' ∧ K.at' N ah'
  | .bk env' ah' => ∃ Γ', S.bk Γ' ∧ StR ok b L Γ' env' ah' ∧ PreS b own env ah L env' ah' ∧ K.at' N ah'
  | .ct env' ah' => ∃ Γ', S.ct Γ' ∧ StR ok b L Γ' env' ah' ∧ PreS b own env ah L env' ah' ∧ K.at' N ah'
  | .exn c fs env' ah' => ∃ f Γ', S.ex c f Γ' ∧ RX ok ah' f fs ∧ (∀ ow, E = some ow → StR ok b ow Γ' env' ah' ∧ PreS b own env ah ow env' ah') ∧ GrowB b ah ah' ∧ K.at' N ah'
  | .stuck => False
structure LS (c : Nat) (own own' : List Nat) (m : SM) (p : VS) : Prop where
  to : ∀ {ok : Nat → Prop} {b : Nat} {Γ : UEnv} {env : HA.Env} {ah : AH} {N : Nat} {S : SK}, OkB ok b → StR ok b own Γ env ah → K.at' N ah → N + cb c ≤ LIM → p Γ S → PSR K F L E ok b own env ah own' (N + cb c) S (m env ah)
end
section
variable {K : Dks} {F : Bool} {L : List Nat} {E : Option (List Nat)} {own own' own1 own2 : List Nat}
theorem PSR.le {ok : Nat → Prop} {b : Nat} {env : HA.Env} {ah : AH} {N M : Nat} {S : SK} {r : SRes} (h : PSR K F L E ok b own env ah own' N S r) (hM : N ≤ M) : PSR K F L E ok b own env ah own' M S r := by
  revert h
  unfold PSR
  split
  · exact fun ⟨a, h1, h2, h3, h4⟩ => ⟨a, h1, h2, h3, K.mono h4 hM⟩
  · exact fun ⟨a, h1, h2, h3, h4⟩ => ⟨a, h1, h2, h3, K.mono h4 hM⟩
  · exact fun ⟨a, h1, h2, h3, h4⟩ => ⟨a, h1, h2, h3, K.mono h4 hM⟩
  · exact fun ⟨a, h1, h2, h3, h4⟩ => ⟨a, h1, h2, h3, K.mono h4 hM⟩
  · exact fun ⟨a, g, h1, h2, h3, h4, h5⟩ => ⟨a, g, h1, h2, h3, h4, K.mono h5 hM⟩
  · exact fun h => h
theorem PSR.after {ok : Nat → Prop} {b : Nat} {env env1 : HA.Env} {ah ah1 : AH} {N : Nat} {S : SK} {r : SRes} (h : PSR K F L E ok b own1 env1 ah1 own' N S r) (p : PreS b own env ah own1 env1 ah1) : PSR K F L E ok b own env ah own' N S r := by
  revert h
  unfold PSR
  split
  · exact fun ⟨a, h1, h2, h3, h4⟩ => ⟨a, h1, h2, p.trans h3, h4⟩
  · exact fun ⟨a, h1, h2, h3, h4⟩ => ⟨a, h1, h2, p.growB.trans h3, h4⟩
  · exact fun ⟨a, h1, h2, h3, h4⟩ => ⟨a, h1, h2, p.trans h3, h4⟩
  · exact fun ⟨a, h1, h2, h3, h4⟩ => ⟨a, h1, h2, p.trans h3, h4⟩
  · exact fun ⟨a, g, h1, h2, h3, h4, h5⟩ => ⟨a, g, h1, h2, fun ow ho => ⟨(h3 ow ho).1, p.trans (h3 ow ho).2⟩, p.growB.trans h4, h5⟩
  · exact fun h => h
theorem PSR.expr {α β : Type} {Q : Rl α β} {ok ok' : Nat → Prop} {b : Nat} {Γ : UEnv} {env : HA.Env} {ah : AH} {N M : Nat} {S : SK} {k : α → Prop} {r : Res β} {f : β → AH → SRes} (O : OkB ok b) (st : StR ok b own Γ env ah) (hE : eok E own = true) (hok : ∀ n, ok' n → ok n)
    (h : PR K ok' ah N Q (fun a f => S.ex a f Γ) k r) (hN : N ≤ M) (hf : ∀ a x ah', k a → Q.r ok' ah' a x → Grow ah ah' → StR ok b own Γ env ah' → K.at' N ah' → PSR K F L E ok b own env ah' own' M S (f x ah')) : PSR K F L E ok b own env ah own' M S (r.thenS env f) := by
  cases r with
  | ok x ah' =>
    obtain ⟨a, ka, q, g, kk⟩ := h
    exact (hf a x ah' ka q g (st.grow O g) kk).after (PreS.ofGrow g st.bl (fun _ h => h))
  | exn c fs ah' =>
    obtain ⟨f, x, q, g, kk⟩ := h
    refine ⟨f, Γ, x, RX.mono hok Sta.refl q, fun ow ho => ?_, ⟨g.len, fun n h3 hn => g.same n h3 (Nat.lt_of_lt_of_le hn st.bl)⟩, K.mono kk hN⟩
    subst ho
    exact ⟨(st.grow O g).drop O (eok_sub hE), PreS.ofGrow g st.bl (eok_sub hE)⟩
  | stuck => exact h
def vSkip : VS := fun Γ S => S.nx Γ
def vSeq (a b : VS) : VS := fun Γ S => a Γ ⟨fun Γ' => b Γ' S, S.rt, S.bk, S.ct, S.ex⟩
def vRet (p : VE U) : VS := fun Γ S => p Γ (fun a f => S.ex a f Γ) S.rt
def vRetN : VS := fun _ S => S.rt .non
def vExpr (p : VE U) : VS := fun Γ S => p Γ (fun a f => S.ex a f Γ) fun _ => S.nx Γ
def vAsg (own : List Nat) (p : VE U) (t : VTM) : VS := fun Γ S => p (eraseU own Γ) (fun a f => S.ex a f Γ) fun u => match t u with
  | some bs => S.nx (setU Γ bs)
  | none => False
def vAsgF (p : VE U) (t : VTM) : VS := fun Γ S => p Γ (fun a f => S.ex a f Γ) fun u => u.flat = true ∧ match t u with
  | some bs => S.nx (setU Γ bs)
  | none => False
def vIfS (c : VE Bool) (a b : VS) : VS := fun Γ S => c Γ (fun a f => S.ex a f Γ) fun t => if t = true then a Γ S else b Γ S
def vBk : VS := fun Γ S => S.bk Γ
def vCt : VS := fun Γ S => S.ct Γ
theorem ls_skip : LS K F L E 0 own own sSkip vSkip := ⟨fun O st kk l x => ⟨_, x, st, PreS.ofGrow Grow.refl st.bl (fun _ h => h), kk⟩⟩
theorem ls_seq {c c' : Nat} {m m' : SM} {p p' : VS} (h : LS K F L E c own own1 m p) (h' : LS K F L E c' own1 own' m' p') : LS K F L E (sq c c') own own' (sSeq m m') (vSeq p p') := ⟨fun {ok b Γ env ah N S} O st kk l x => by
  have s := cb_sq c c'
  have w := h.to O st kk (by omega) x
  unfold sSeq
  cases z : m env ah with
  | nx env1 ah1 =>
    rw [z] at w
    obtain ⟨Γ', h1, h2, h3, h4⟩ := w
    exact ((h'.to O h2 h4 (by omega) h1).after h3).le (by omega)
  | rt d ah1 => rw [z] at w; obtain ⟨u, h1, h2, h3, h4⟩ := w; exact ⟨u, h1, h2, h3, K.mono h4 (by omega)⟩
  | bk e ah1 => rw [z] at w; obtain ⟨u, h1, h2, h3, h4⟩ := w; exact ⟨u, h1, h2, h3, K.mono h4 (by omega)⟩
  | ct e ah1 => rw [z] at w; obtain ⟨u, h1, h2, h3, h4⟩ := w; exact ⟨u, h1, h2, h3, K.mono h4 (by omega)⟩
  | exn c fs e ah1 => rw [z] at w; obtain ⟨u, g, h1, h2, h3, h4, h5⟩ := w; exact ⟨u, g, h1, h2, h3, h4, K.mono h5 (by omega)⟩
  | stuck => rw [z] at w; exact w.elim⟩
theorem ls_ret {c : Nat} {m : EM D} {p : VE U} (h : LE K RU c m p) (hE : eok E own = true := by rfl) : LS K false L E c own own' (sRet m) (vRet p) := ⟨fun {ok b Γ env ah N S} O st kk l x =>
  PSR.expr O st hE (fun _ h => h) (h.to (st.okf O) (st.toEnv O) kk l x) (Nat.le_refl _) fun a d ah' ka q g st' kk' => ⟨a, ka, q, ⟨Nat.le_refl _, fun _ _ _ => rfl⟩, kk'⟩⟩
theorem PSR.bind {ok : Nat → Prop} {b : Nat} {Γ : UEnv} {env : HA.Env} {ah : AH} {N : Nat} {S : SK} {tm : TM} {vt : VTM} {ts : List Nat} {u : U} {d : D} (O : OkB ok b) (st : StR ok b own Γ env ah) (hT : LTg tm vt ts) (hd : dis ts own = true) (q : R (av ok env own) ah u d) (kk : K.at' N ah)
    (x : match vt u with
      | some bs => S.nx (setU Γ bs)
      | none => False) : PSR K F L E ok b own env ah own N S (match tm d env ah with
      | some env1 => .nx env1 ah
      | none => .stuck) := by
  split at x
  · rename_i bs hb
    obtain ⟨cs, h1, h2, h3⟩ := hT.to env q hb
    rw [h1]
    have hn : ∀ y ∈ bs, y.1 ∉ own := fun y hy => dis_not hd (h3 y hy)
    refine ⟨_, x, st.sets h2 hn, ⟨Nat.le_refl _, fun _ _ _ _ => rfl, fun _ _ _ => rfl, fun i n hi e _ => ⟨i, hi, ?_⟩⟩, kk⟩
    rw [← e]
    refine (setD_ne env cs fun y hy z => ?_).symm
    have : y.1 ∈ bs.map (·.1) := by rw [h2.1]; exact List.mem_map_of_mem hy
    obtain ⟨w, hw, ew⟩ := List.mem_map.mp this
    exact hn w hw (by rw [ew, z]; exact hi)
  · exact x.elim
theorem ls_asg {c : Nat} {m : EM D} {p : VE U} {tm : TM} {vt : VTM} {ts : List Nat} (h : LE K RU c m p) (hT : LTg tm vt ts) (hd : dis ts own = true := by rfl) (hE : eok E own = true := by rfl) : LS K F L E c own own (sAsg m tm) (vAsg own p vt) := ⟨fun {ok b Γ env ah N S} O st kk l x =>
  PSR.expr O st hE (fun _ h => h.1) (h.to (st.okav O) st.clean kk l x) (Nat.le_refl _) fun a d ah' ka q g st' kk' => PSR.bind O st' hT hd q kk' ka⟩
theorem ls_if {c c1 c2 : Nat} {mc : EM Bool} {pc : VE Bool} {m m' : SM} {p p' : VS} (hc : LE K (REq Bool) c mc pc) (h : LS K F L E c1 own own' m p) (h' : LS K F L E c2 own own' m' p') (hE : eok E own = true := by rfl) : LS K F L E (sq c (sq c1 c2)) own own' (sIf mc m m') (vIfS pc p p') := ⟨fun {ok b Γ env ah N S} O st kk l x => by
  have s := cb_sq c (sq c1 c2)
  have s' := cb_sq c1 c2
  refine PSR.expr (N := N + cb c) O st hE (fun _ h => h) (hc.to (st.okf O) (st.toEnv O) kk (by omega) x) (by omega) fun a d ah' ka q g st' kk' => ?_
  cases q
  cases a with
  | true => exact (h.to O st' kk' (by omega) ka).le (by omega)
  | false => exact (h'.to O st' kk' (by omega) ka).le (by omega)⟩
structure LN (c : Nat) (m : EM D) (p : VE U) : Prop where
  to : ∀ {ok : Nat → Prop} {Γ : UEnv} {env : HA.Env} {ah : AH} {N : Nat} {X : ExK} {k : U → Prop}, OkF ok ah → EnvR ok ah Γ env → K.at' N ah → N + cb c ≤ LIM → p Γ X k → match m env ah with
    | .ok d ah' => ∃ u n o, k u ∧ d = .ref n ∧ ah.length ≤ n ∧ ah'[n]? = some o ∧ OR (fun m => ok m ∧ m ≠ n) ah' u o ∧ Grow ah ah' ∧ K.at' (N + cb c) ah'
    | .exn a fs ah' => ∃ f, X a f ∧ RX ok ah' f fs ∧ Grow ah ah' ∧ K.at' (N + cb c) ah'
    | .stuck => False
theorem ln_new {c : Nat} {m : EM (List D)} {p : VE (List U)} (h : LE K RUs c m p) : LN (K := K) c (eNew m) (vNew p) := ⟨fun {ok Γ env ah N X k} o e kk l x => by
  have w := h.to o e kk l x
  unfold eNew e1
  cases z : m env ah with
  | ok ds ah1 =>
    rw [z] at w
    obtain ⟨us, h1, h2, h3, h4⟩ := w
    have h2' : Rs ok ah1 us ds := h2
    refine ⟨.lst us, ah1.length, .lst ds, h1, rfl, h3.len, by simp, ?_, h3.trans Grow.app, K.app _ h4⟩
    exact Rs.mono (fun n a => ⟨a.1, by have := a.2; omega⟩) (fun n o a e => by rw [List.getElem?_append_left a.2]; exact e) _ _ (Rs.inb _ _ h2')
  | exn a fs ah1 => rw [z] at w; exact w
  | stuck => rw [z] at w; exact w⟩
def vAsgN (own : List Nat) (p : VE U) (i : Nat) : VS := fun Γ S => i < Γ.length ∧ vAsg own p (tSet i) Γ S
theorem ls_new {c i : Nat} {m : EM D} {p : VE U} (h : LN (K := K) c m p) (hs : sub own' (i :: own) = true := by rfl) (hE : eok E own = true := by rfl) : LS K F L E c own own' (sAsg m (gSet i)) (vAsgN own p i) := ⟨fun {ok b Γ env ah N S} O st kk l x => by
  obtain ⟨hi, x⟩ := x
  have w := h.to (st.okav O) st.clean kk l x
  unfold sAsg
  cases z : m env ah with
  | ok d ah1 =>
    rw [z] at w
    obtain ⟨u, n, o, h1, rfl, h3, h4, h5, h6, h7⟩ := w
    refine ⟨_, h1, st.new O h6 h3 h4 h5 (by rw [st.len]; exact hi) (sub_sub hs), ⟨h6.len, fun m a b _ => h6.same m a b, fun m a c => h6.same m a (Nat.lt_of_lt_of_le c st.bl), fun j m hj e hm => ?_⟩, h7⟩
    by_cases h' : i = j
    · subst h'
      have hl : i < env.length := by rw [st.len]; exact hi
      rw [List.getElem?_set_self hl] at e
      cases e
      omega
    · rw [List.getElem?_set_ne h'] at e
      rcases List.mem_cons.mp (sub_sub hs hj) with q | q
      · exact absurd q.symm h'
      · exact ⟨j, q, e⟩
  | exn a fs ah1 =>
    rw [z] at w
    obtain ⟨f, x1, x2, g, kk'⟩ := w
    refine ⟨f, Γ, x1, RX.mono (fun _ h => h.1) Sta.refl x2, fun ow ho => ?_, ⟨g.len, fun n h3 hn => g.same n h3 (Nat.lt_of_lt_of_le hn st.bl)⟩, kk'⟩
    subst ho
    exact ⟨(st.grow O g).drop O (eok_sub hE), PreS.ofGrow g st.bl (eok_sub hE)⟩
  | stuck => rw [z] at w; exact w.elim⟩
end
end HV
namespace HV
open PySem PySem.Spec PyProof.Rows L2 HA
section
variable {K : Dks} {F : Bool} {L : List Nat} {E : Option (List Nat)} {own own' own1 own2 : List Nat}
def vForL (vt : VTM) (body : VS) : List U → UEnv → SK → Prop
  | [], Γ, S => S.nx Γ
  | u :: us, Γ, S => match vt u with
    | some bs => body (setU Γ bs) ⟨fun Γ' => vForL vt body us Γ' S, S.rt, S.nx, fun Γ' => vForL vt body us Γ' S, S.ex⟩
    | none => False
def vFor (own : List Nat) (pi : VE (List U)) (vt : VTM) (body : VS) : VS := fun Γ S => pi (eraseU own Γ) (fun a f => S.ex a f Γ) fun us => vForL vt body us Γ S
def vForB (own : List Nat) (pi : VE (List U)) (vt : VTM) (body : VS) : VS := fun Γ S => pi (eraseU own Γ) (fun a f => S.ex a f Γ) fun us => us.length ≤ line ∧ vForL vt body us Γ S
theorem guard_pre {b : Nat} {ok : Nat → Prop} {env env' : HA.Env} {ah ah' : AH} {t : Itm} (O : OkB ok b) (p : PreS b own env ah own env' ah') (hg : ∀ q, q ∈ t.guard → av ok env own q.1 ∧ ah[q.1]? = some (.lst q.2)) : ∀ q, q ∈ t.guard → av ok env' own q.1 ∧ ah'[q.1]? = some (.lst q.2) := fun q hq => by
  obtain ⟨a, e⟩ := hg q hq
  have hl := (List.getElem?_eq_some_iff.mp e).1
  refine ⟨⟨a.1, fun i hi z => ?_⟩, ?_⟩
  · obtain ⟨j, hj, ej⟩ := p.refs i _ hi z hl
    exact a.2 j hj ej
  · rw [p.same _ (O.three _ a.1) hl a.2]; exact e
theorem av_pre {b : Nat} {ok : Nat → Prop} {env env' : HA.Env} {ah ah' : AH} (p : PreS b own env ah own env' ah') {n : Nat} (a : av ok env own n ∧ n < ah.length) : av ok env' own n := ⟨a.1.1, fun i hi z => by
  obtain ⟨j, hj, ej⟩ := p.refs i _ hi z a.2
  exact a.1.2 j hj ej⟩
theorem Rs.pre {b : Nat} {ok : Nat → Prop} {env env' : HA.Env} {ah ah' : AH} {us : List U} {ds : List D} (O : OkB ok b) (p : PreS b own env ah own env' ah') (r : Rs (av ok env own) ah us ds) : Rs (av ok env' own) ah' us ds :=
  Rs.mono (fun n a => av_pre p a) (fun n o a e => by rw [p.same n (O.three n a.1.1) a.2 a.1.2]; exact e) _ _ (Rs.inb _ _ r)
theorem forLoop_V {c : Nat} {t : Itm} {tm : TM} {vt : VTM} {ts : List Nat} {body : SM} {pb : VS} {ok : Nat → Prop} {b : Nat} {S : SK} {L0 : List Nat} (O : OkB ok b) (hT : LTg tm vt ts) (hd : dis ts own = true) (hb : LS K F own E c own own body pb) :
    ∀ (us : List U) (ds : List D) (Γ : UEnv) (env : HA.Env) (ah : AH) (N : Nat), StR ok b own Γ env ah → K.at' N ah → (∀ q, q ∈ t.guard → av ok env own q.1 ∧ ah[q.1]? = some (.lst q.2)) → N + us.length * cb c ≤ LIM → Rs (av ok env own) ah us ds → vForL vt pb us Γ S → PSR K F L0 E ok b own env ah own (N + us.length * cb c) S (forLoop t tm body ds env ah)
  | [], ds, Γ, env, ah, N, st, kk, hg, l, r, x => by
    simp only [Rs] at r
    subst r
    unfold forLoop
    rw [if_pos (okIn_of fun p hp => (hg p hp).2)]
    exact ⟨Γ, x, st, PreS.ofGrow Grow.refl st.bl (fun _ h => h), by simpa using kk⟩
  | u :: us, ds, Γ, env, ah, N, st, kk, hg, l, r, x => by
    simp only [Rs] at r
    obtain ⟨d, ds, rfl, q, r⟩ := r
    rw [List.length_cons, Nat.add_mul, Nat.one_mul] at l ⊢
    unfold vForL at x
    split at x
    · rename_i bs hbs
      obtain ⟨cs, h1, h2, h3⟩ := hT.to env q hbs
      have hn : ∀ y ∈ bs, y.1 ∉ own := fun y hy => dis_not hd (h3 y hy)
      have st1 := st.sets h2 hn
      have p1 : PreS b own env ah own (setD env cs) ah := ⟨Nat.le_refl _, fun _ _ _ _ => rfl, fun _ _ _ => rfl, fun i n hi e _ => ⟨i, hi, by
        rw [← e]
        refine (setD_ne env cs fun y hy z => ?_).symm
        have : y.1 ∈ bs.map (·.1) := by rw [h2.1]; exact List.mem_map_of_mem hy
        obtain ⟨w, hw, ew⟩ := List.mem_map.mp this
        exact hn w hw (by rw [ew, z]; exact hi)⟩⟩
      unfold forLoop
      rw [if_pos (okIn_of fun p hp => (hg p hp).2), h1]
      simp only
      have w := hb.to O st1 kk (by omega) x
      have go : ∀ (Γ' : UEnv) (env' : HA.Env) (ah' : AH), vForL vt pb us Γ' S → StR ok b own Γ' env' ah' → PreS b own (setD env cs) ah own env' ah' → K.at' (N + cb c) ah' → PSR K F L0 E ok b own env ah own (N + (us.length * cb c + cb c)) S (forLoop t tm body ds env' ah') := fun Γ' env' ah' y1 y2 y3 y4 => by
        have p2 := p1.trans y3
        exact ((forLoop_V O hT hd hb us ds Γ' env' ah' (N + cb c) y2 y4 (guard_pre O p2 hg) (by omega) (Rs.pre O p2 r) y1).after p2).le (by omega)
      cases z : body (setD env cs) ah with
      | nx env1 ah1 => rw [z] at w; obtain ⟨Γ', y1, y2, y3, y4⟩ := w; exact go Γ' env1 ah1 y1 y2 y3 y4
      | ct env1 ah1 => rw [z] at w; obtain ⟨Γ', y1, y2, y3, y4⟩ := w; exact go Γ' env1 ah1 y1 y2 y3 y4
      | bk env1 ah1 => rw [z] at w; obtain ⟨Γ', y1, y2, y3, y4⟩ := w; exact ⟨Γ', y1, y2, p1.trans y3, K.mono y4 (by omega)⟩
      | rt d ah1 => rw [z] at w; obtain ⟨u, h1, h2, h3, h4⟩ := w; exact ⟨u, h1, h2, p1.growB.trans h3, K.mono h4 (by omega)⟩
      | exn a fs e ah1 => rw [z] at w; obtain ⟨u, g, h1, h2, h3, h4, h5⟩ := w; exact ⟨u, g, h1, h2, fun ow ho => ⟨(h3 ow ho).1, p1.trans (h3 ow ho).2⟩, p1.growB.trans h4, K.mono h5 (by omega)⟩
      | stuck => rw [z] at w; exact w.elim
    · exact x.elim
theorem ls_for {c : Nat} {mi : EM Itm} {pi : VE (List U)} {tm : TM} {vt : VTM} {ts : List Nat} {body : SM} {pb : VS} (hi : LE K RIt c mi pi) (hT : LTg tm vt ts) (hb : LS K F own E 0 own own body pb) (hd : dis ts own = true := by rfl) (hE : eok E own = true := by rfl) : LS K F L E c own own (sFor mi tm body) (vFor own pi vt pb) := ⟨fun {ok b Γ env ah N S} O st kk l x =>
  PSR.expr (N := N + cb c) O st hE (fun _ h => h.1) (hi.to (st.okav O) st.clean kk l x) (Nat.le_refl _) fun us t ah' ka q g st' kk' => by
    have := forLoop_V (L0 := L) O hT hd hb us t.items Γ env ah' (N + cb c) st' kk' q.2 (by rw [cb_zero]; omega) q.1 ka
    exact this.le (by rw [cb_zero]; omega)⟩
theorem ls_forB {c c' : Nat} {mi : EM Itm} {pi : VE (List U)} {tm : TM} {vt : VTM} {ts : List Nat} {body : SM} {pb : VS} (hi : LE K RIt c mi pi) (hT : LTg tm vt ts) (hb : LS K F own E c' own own body pb) (hd : dis ts own = true := by rfl) (hE : eok E own = true := by rfl) : LS K F L E (sq c (lp c')) own own (sFor mi tm body) (vForB own pi vt pb) := ⟨fun {ok b Γ env ah N S} O st kk l x => by
  have s := cb_sq c (lp c')
  refine PSR.expr (N := N + cb c) O st hE (fun _ h => h.1) (hi.to (st.okav O) st.clean kk (by omega) x) (by omega) fun us t ah' ka q g st' kk' => ?_
  have lb := cb_lp c' us.length ka.1
  have := forLoop_V (L0 := L) O hT hd hb us t.items Γ env ah' (N + cb c) st' kk' q.2 (by omega) q.1 ka.2
  exact this.le (by omega)⟩
structure LTX (tm : TMX) (vt : VTM) (ts : List Nat) : Prop where
  to : ∀ {ok : Nat → Prop} {ah : AH} {u : U} {d : D} {bs : List (Nat × U)} (env : HA.Env), OkF ok ah → R ok ah u d → vt u = some bs → ∃ cs x, tm d env ah = some (setD env cs, ah ++ x) ∧ Rb ok (ah ++ x) bs cs ∧ ∀ x ∈ bs, x.1 ∈ ts
def tStar (n : Nat) (r : List U → Option (List (Nat × U))) : VTM := fun u => match u with
  | .tup us => if n ≤ us.length then r (us.take n ++ [.lst (us.drop n)]) else none
  | _ => none
def vWh (pc : VE Bool) (body : VS) : Nat → VS
  | 0 => fun _ _ => False
  | n + 1 => fun Γ S => pc Γ (fun a f => S.ex a f Γ) fun t => if t = true then body Γ ⟨fun Γ' => vWh pc body n Γ' S, S.rt, S.nx, fun Γ' => vWh pc body n Γ' S, S.ex⟩ else S.nx Γ
def vPar2 (own : List Nat) (i j : Nat) (p : VE (List U)) : VS := fun Γ S => p (eraseU own Γ) (fun a f => S.ex a f Γ) fun us => match us with
  | [x, y] => S.nx ((Γ.set i (some x)).set j (some y))
  | _ => False
abbrev VMt := U → List U → (U → U → Prop) → Prop
structure LMt (f : D → List D → AH → Res D) (vf : VMt) : Prop where
  to : ∀ {ok : Nat → Prop} {ah : AH} {n : Nat} {o : AObj} {u : U} {us : List U} {ds : List D} {k : U → U → Prop}, ¬ ok n → ah[n]? = some o → OR ok ah u o → Rs ok ah us ds → vf u us k → ∃ d o' r u', f (.ref n) ds ah = .ok d (ah.set n o') ∧ k r u' ∧ R ok ah r d ∧ OR ok ah u' o'
def vAppend : VMt
  | .lst xs, [y], k => xs.length < line ∧ k .non (.lst (xs ++ [y]))
  | _, _, _ => False
theorem OR.lst {ok : Nat → Prop} {ah : AH} {xs : List U} {o : AObj} (h : OR ok ah (.lst xs) o) : ∃ ds, o = .lst ds ∧ Rs ok ah xs ds := by
  cases o with
  | lst ds => exact ⟨ds, rfl, h⟩
  | _ => exact h.elim
theorem lm_append : LMt mAppend vAppend := ⟨fun {ok ah n o u us ds k} hn e r q x => by
  unfold vAppend at x
  split at x
  · obtain ⟨xs, rfl, r⟩ := r.lst
    simp only [Rs] at q
    obtain ⟨d, es, rfl, q, rfl⟩ := q
    unfold mAppend
    simp only [e]
    rw [if_pos (by rw [← r.len]; exact x.1)]
    exact ⟨_, _, _, _, rfl, x.2, by simp only [R], r.app (Rs.cons q Rs.nil)⟩
  · exact x.elim⟩
def vPop : VMt
  | .lst xs, [], k => match xs[xs.length - 1]? with
    | some y => k y (.lst xs.dropLast)
    | none => False
  | .lst xs, [.int i], k => (-(2 ^ 63) ≤ i ∧ i < 2 ^ 63) ∧ match seqIndex? i xs.length with
    | some j => match xs[j]? with
      | some y => k y (.lst (xs.eraseIdx j))
      | none => False
    | none => False
  | _, _, _ => False
def vInsert : VMt
  | .lst xs, [.int i, y], k => (xs.length < line ∧ 0 ≤ i ∧ i < 2 ^ 63) ∧ k .non (.lst (xs.take i.toNat ++ [y] ++ xs.drop i.toNat))
  | _, _, _ => False
def vMt (own : List Nat) (i : Nat) (pa : VE (List U)) (vf : VMt) (Γ : UEnv) (X : ExK) (k : U → UEnv → Prop) : Prop := match Γ[i]? with
  | some (some (.lst xs)) => pa (eraseU own Γ) X fun us => vf (.lst xs) us fun r u' => k r (Γ.set i (some u'))
  | _ => False
def vMtF (i : Nat) (pa : VE (List U)) (vf : VMt) (Γ : UEnv) (X : ExK) (k : U → UEnv → Prop) : Prop := match Γ[i]? with
  | some (some (.lst xs)) => pa Γ X fun us => U.flats us = true ∧ vf (.lst xs) us fun r u' => k r (Γ.set i (some u'))
  | _ => False
theorem mt_go {ok ok' : Nat → Prop} {b c i N : Nat} {Γ : UEnv} {env : HA.Env} {ah : AH} {S : SK} {ml : EM (List D)} {f : D → List D → AH → Res D} {vf : VMt} {k : U → UEnv → Prop} {g : D → AH → SRes} {xs : List U} (O : OkB ok b) (st : StR ok b own Γ env ah) (hE : eok E own = true) (hi : i ∈ own) (hM : LMt f vf) (hx : Γ[i]? = some (some (.lst xs))) {Q : List U → Prop}
    (hok : ∀ n, ok' n → ok n) (w : PR K ok' ah (N + cb c) RUs (fun a f => S.ex a f Γ) Q (ml env ah)) (hQ : ∀ us ds ah', Q us → Rs ok' ah' us ds → Rs (av ok env own) ah' us ds ∧ vf (.lst xs) us fun r u' => k r (Γ.set i (some u')))
    (hg : ∀ r d ah' Γ', k r Γ' → R (av ok env own) ah' r d → StR ok b own Γ' env ah' → K.at' (N + cb c) ah' → PSR K F L E ok b own env ah' own' (N + cb c) S (g d ah')) :
    PSR K F L E ok b own env ah own' (N + cb c) S ((eMt (eVar i) ml f env ah).thenS env g) := by
  obtain ⟨n, o, u, e1, e2, e3, e4, e5⟩ := st.ow i hi
  have hn : ¬ av ok env own n := fun a => a.2 i hi e1
  rw [hx] at e4
  cases e4
  obtain ⟨es, rfl, r⟩ := e5.lst
  have hl : isList (.ref n) ah = true := by unfold isList HA.listAt; simp only [e3]; rfl
  unfold eMt eVar
  rw [e1]
  simp only [Res.bind, hl, if_true]
  cases z : ml env ah with
  | stuck =>
    rw [z] at w
    exact w.elim
  | exn a fs ah1 =>
    rw [z] at w
    obtain ⟨f1, x, q, gr, kk⟩ := w
    refine ⟨f1, Γ, x, RX.mono hok Sta.refl q, fun ow ho => ?_, ⟨gr.len, fun n h3 hn => gr.same n h3 (Nat.lt_of_lt_of_le hn st.bl)⟩, kk⟩
    subst ho
    exact ⟨(st.grow O gr).drop O (eok_sub hE), PreS.ofGrow gr st.bl (eok_sub hE)⟩
  | ok ds ah1 =>
    rw [z] at w
    obtain ⟨us, hq, q, gr, kk⟩ := w
    obtain ⟨q', x⟩ := hQ us ds ah1 hq q
    have st1 := st.grow O gr
    have hlen := (List.getElem?_eq_some_iff.mp e3).1
    have e3' : ah1[n]? = some (.lst es) := by rw [gr.same n (O.three n (O.fresh n e2)) hlen]; exact e3
    have r' : Rs (av ok env own) ah1 xs es := Rs.mono (fun _ h => h) (gr.sta (st.okav O)) _ _ r
    obtain ⟨d, o', rr, u', f1, f2, f3, f4⟩ := hM.to hn e3' (show OR _ _ (.lst xs) (.lst es) from r') q' x
    simp only [f1]
    obtain ⟨s1, s2⟩ := st1.mut O hi e1 f4
    have stay : Sta (av ok env own) ah1 (ah1.set n o') := fun k ob a ek => by
      rw [List.getElem?_set_ne (fun z => hn (by rw [z]; exact a))]; exact ek
    exact (hg rr d _ _ f2 (R.mono (fun _ h => h) stay _ _ f3) s1 (K.set kk (O.three n (O.fresh n e2)))).after ((PreS.ofGrow gr st.bl (fun _ h => h)).trans s2)
def vMtS (own : List Nat) (i : Nat) (pa : VE (List U)) (vf : VMt) : VS := fun Γ S => vMt own i pa vf Γ (fun a f => S.ex a f Γ) fun _ Γ' => S.nx Γ'
def vMtSF (i : Nat) (pa : VE (List U)) (vf : VMt) : VS := fun Γ S => vMtF i pa vf Γ (fun a f => S.ex a f Γ) fun _ Γ' => S.nx Γ'
def vMtA (own : List Nat) (i : Nat) (pa : VE (List U)) (vf : VMt) (j : Nat) : VS := fun Γ S => vMt own i pa vf Γ (fun a f => S.ex a f Γ) fun r Γ' => S.nx (Γ'.set j (some r))
def vMtAF (i : Nat) (pa : VE (List U)) (vf : VMt) (j : Nat) : VS := fun Γ S => vMtF i pa vf Γ (fun a f => S.ex a f Γ) fun r Γ' => S.nx (Γ'.set j (some r))
theorem ls_mt {c i : Nat} {ml : EM (List D)} {pa : VE (List U)} {f : D → List D → AH → Res D} {vf : VMt} (h : LE K RUs c ml pa) (hM : LMt f vf) (hi : own.contains i = true := by rfl) (hE : eok E own = true := by rfl) : LS K F L E c own own (sExpr (eMt (eVar i) ml f)) (vMtS own i pa vf) := ⟨fun {ok b Γ env ah N S} O st kk l x => by
  have hi' : i ∈ own := by simpa using hi
  unfold vMtS vMt at x
  split at x
  · rename_i xs hx
    exact mt_go (k := fun _ Γ' => S.nx Γ') O st hE hi' hM hx (fun _ h => h.1) (h.to (st.okav O) st.clean kk l x) (fun us ds ah' hq r => ⟨r, hq⟩) fun r d ah' Γ' hk q st' kk' => ⟨Γ', hk, st', PreS.ofGrow Grow.refl st'.bl (fun _ h => h), kk'⟩
  · exact x.elim⟩
def vSetL (own : List Nat) (i : Nat) (pi pv : VE U) : VS := fun Γ S => pv (eraseU own Γ) (fun a f => S.ex a f Γ) fun v => pi Γ (fun a f => S.ex a f Γ) fun kd => match Γ[i]?, kd with
  | some (some (.lst xs)), .int q => match ixN xs.length q with
    | some j => S.nx (Γ.set i (some (.lst (xs.set j v))))
    | none => False
  | _, _ => False
def vSetLF (i : Nat) (pi pv : VE U) : VS := fun Γ S => pv Γ (fun a f => S.ex a f Γ) fun v => v.flat = true ∧ pi Γ (fun a f => S.ex a f Γ) fun kd => match Γ[i]?, kd with
  | some (some (.lst xs)), .int q => match ixN xs.length q with
    | some j => S.nx (Γ.set i (some (.lst (xs.set j v))))
    | none => False
  | _, _ => False
def uPut (ks : List Key) (us : List U) (kk : Key) (v : U) : U := if (ks.any fun z => decide (z = kk)) = true then .dK ks ((ks.zip us).map fun p => if p.1 = kk then v else p.2) else .dK (ks ++ [kk]) (us ++ [v])
def vPut (own : List Nat) (i : Nat) (pi pv : VE U) : VS := fun Γ S => pv (eraseU own Γ) (fun a f => S.ex a f Γ) fun v => pi Γ (fun a f => S.ex a f Γ) fun kd => match Γ[i]?, uKey kd with
  | some (some (.dK ks us)), some kk => ks.length < line ∧ S.nx (Γ.set i (some (uPut ks us kk v)))
  | _, _ => False
theorem put_Rs {ok : Nat → Prop} {ah : AH} {kk : Key} {v : U} {dv : D} (q : R ok ah v dv) : ∀ (us : List U) (kvs : List (Key × D)), Rs ok ah us (kvs.map (·.2)) → Rs ok ah (((kvs.map (·.1)).zip us).map fun p => if p.1 = kk then v else p.2) ((kvs.map fun kv => if kv.1 = kk then (kv.1, dv) else kv).map (·.2))
  | [], kvs, r => by
    simp only [Rs, List.map_eq_nil_iff] at r
    subst r
    exact Rs.nil
  | u :: us, [], r => by simp [Rs] at r
  | u :: us, kv :: kvs, r => by
    simp only [List.map_cons, Rs, List.cons.injEq] at r
    obtain ⟨d, es, ⟨rfl, rfl⟩, q1, r⟩ := r
    simp only [List.map_cons, List.zip_cons_cons]
    refine Rs.cons ?_ (put_Rs q us kvs r)
    by_cases h : kv.1 = kk <;> simp [h, q, q1]
def vDnew : VE U := fun _ _ k => k (.dK [] [])
theorem ln_dnew : LN (K := K) 0 eDnew vDnew := ⟨fun {ok Γ env ah N X k} o e kk l x => by
  unfold eDnew
  exact ⟨_, _, _, x, rfl, Nat.le_refl _, by simp, show OR _ _ (.dK [] []) (.dK []) from ⟨rfl, Rs.nil⟩, Grow.app, K.app _ kk⟩⟩
theorem ln_le {c : Nat} {m : EM D} {p : VE U} (h : LN (K := K) c m p) : LE K RU c m p := ⟨fun {ok Γ env ah N X k} o e kk l x => by
  have w := h.to o e kk l x
  cases z : m env ah with
  | ok d ah1 =>
    rw [z] at w
    obtain ⟨u, n, ob, h1, rfl, h3, h4, h5, h6, h7⟩ := w
    exact ⟨u, h1, (h5.mono (fun _ a => a.1) Sta.refl).to (o.fresh n h3) h4, h6, h7⟩
  | exn a fs ah1 => rw [z] at w; exact w
  | stuck => rw [z] at w; exact w⟩
def vFn (n ar : Nat) (pb : VS) : List U → ExK → (U → Prop) → Prop := fun us X k => us.length = ar ∧ pb (us.map some ++ List.replicate (n - us.length) none) ⟨fun _ => k .non, k, fun _ => False, fun _ => False, fun a f _ => X a f⟩
abbrev LF (K : Dks) (c : Nat) (m : List D → AH → Res D) (p : List U → ExK → (U → Prop) → Prop) : Prop := LO1 K RUs RU c m p
structure LFN (K : Dks) (c : Nat) (m : List D → AH → Res D) (p : List U → ExK → (U → Prop) → Prop) : Prop where
  to : ∀ {ok : Nat → Prop} {ah : AH} {N : Nat} {X : ExK} {k : U → Prop} {us : List U} {ds : List D}, OkF ok ah → Rs ok ah us ds → K.at' N ah → N + cb c ≤ LIM → p us X k → match m ds ah with
    | .ok d ah' => ∃ u n o, k u ∧ d = .ref n ∧ ah.length ≤ n ∧ ah'[n]? = some o ∧ OR (fun m => ok m ∧ m ≠ n) ah' u o ∧ Grow ah ah' ∧ K.at' (N + cb c) ah'
    | .exn a fs ah' => ∃ f, X a f ∧ RX ok ah' f fs ∧ Grow ah ah' ∧ K.at' (N + cb c) ah'
    | .stuck => False
theorem start {ok : Nat → Prop} {ah : AH} {us : List U} {ds : List D} (r : Rs ok ah us ds) (n : Nat) : StR ok ah.length [] (us.map some ++ List.replicate n none) (ds.map some ++ List.replicate n none) ah :=
  have sh : ∀ (i : Nat) (u : U), i ∉ [] → (us.map some ++ List.replicate n none)[i]? = some (some u) → ∃ d, (ds.map some ++ List.replicate n none)[i]? = some (some d) ∧ R (av ok (ds.map some ++ List.replicate n none) []) ah u d := fun i u _ e => by
    by_cases hi : i < us.length
    · rw [List.getElem?_append_left (by simpa using hi), List.getElem?_map] at e
      cases z : us[i]? with
      | none => rw [z] at e; cases e
      | some w =>
        rw [z] at e
        cases e
        obtain ⟨d, h1, h2⟩ := r.get z
        refine ⟨d, ?_, R.mono (fun n h => ⟨h, fun i hi => absurd hi List.not_mem_nil⟩) Sta.refl _ _ h2⟩
        rw [List.getElem?_append_left (by rw [List.length_map, ← r.len]; exact hi), List.getElem?_map, h1]
        rfl
    · rw [List.getElem?_append_right (by simpa using hi), List.getElem?_replicate] at e
      split at e
      · cases e
      · cases e
  ⟨by simp [r.len], Nat.le_refl _, sh, fun i hi => absurd hi List.not_mem_nil, fun i j n hi => absurd hi List.not_mem_nil⟩
theorem lf_fn {c n ar : Nat} {mb : SM} {pb : VS} (h : LS K false [] none c [] [] mb pb) : LF K c (fnR n ar mb) (vFn n ar pb) := ⟨fun {ok ah N X k us ds} o q kk l x => by
  obtain ⟨hl, x⟩ := x
  have q' : Rs ok ah us ds := q
  have w := h.to (b := ah.length) ⟨o.three, o.fresh⟩ (start q' (n - us.length)) kk l x
  unfold fnR
  rw [if_pos (by rw [← q'.len]; exact hl), ← q'.len]
  cases z : mb (ds.map some ++ List.replicate (n - us.length) none) ah with
  | nx e ah1 => rw [z] at w; obtain ⟨Γ', y1, y2, y3, y4⟩ := w; exact ⟨.non, y1, (show R ok ah1 .non .non by simp only [R]), ⟨y3.len, y3.old⟩, y4⟩
  | rt d ah1 => rw [z] at w; obtain ⟨u, y1, y2, y3, y4⟩ := w; exact ⟨u, y1, y2, ⟨y3.len, y3.old⟩, y4⟩
  | bk e ah1 => rw [z] at w; obtain ⟨Γ', y1, _⟩ := w; exact y1.elim
  | ct e ah1 => rw [z] at w; obtain ⟨Γ', y1, _⟩ := w; exact y1.elim
  | exn a fs e ah1 => rw [z] at w; obtain ⟨f, Γ', y1, y2, _, y4, y5⟩ := w; exact ⟨f, y1, y2, ⟨y4.len, y4.old⟩, y5⟩
  | stuck => rw [z] at w; exact w.elim⟩
def vFnN (n ar : Nat) (pb : VS) : List U → ExK → (U → Prop) → Prop := fun us X k => us.length = ar ∧ pb (us.map some ++ List.replicate (n - us.length) none) ⟨fun _ => False, k, fun _ => False, fun _ => False, fun a f _ => X a f⟩
theorem LFN.weak {c c' : Nat} {m : List D → AH → Res D} {p : List U → ExK → (U → Prop) → Prop} (h : LFN K c m p) (hc : Nat.ble c c' = true := by rfl) : LFN K c' m p := ⟨fun {ok ah N X k us ds} o q kk l x => by
  have hm := cb_mono (Nat.le_of_ble_eq_true hc)
  have w := h.to o q kk (by omega) x
  cases z : m ds ah with
  | ok d ah1 =>
    rw [z] at w
    obtain ⟨u, n, ob, h1, h2, h3, h4, h5, h6, h7⟩ := w
    exact ⟨u, n, ob, h1, h2, h3, h4, h5, h6, K.mono h7 (by omega)⟩
  | exn a fs ah1 => rw [z] at w; obtain ⟨f, h1, h2, h3, h4⟩ := w; exact ⟨f, h1, h2, h3, K.mono h4 (by omega)⟩
  | stuck => rw [z] at w; exact w⟩
theorem LO1.weak {α β γ δ : Type} {Q : Rl α β} {Q' : Rl γ δ} {c c' : Nat} {f : β → AH → Res δ} {p : α → ExK → (γ → Prop) → Prop} (h : LO1 K Q Q' c f p) (hc : Nat.ble c c' = true := by rfl) : LO1 K Q Q' c' f p := ⟨fun o q kk l x =>
  have := cb_mono (Nat.le_of_ble_eq_true hc)
  (h.to o q kk (by omega) x).le (by omega)⟩
theorem lf_stuck {c : Nat} : LF K c (fun _ _ => .stuck) (fun _ _ _ => False) := ⟨fun o q kk l x => x.elim⟩
end
end HV
namespace HV
open PySem PySem.Spec PyProof.Rows L2 HA
theorem lg_mul {i j : Int} {p q : Nat} (h1 : i.natAbs < 2 ^ p) (h2 : j.natAbs < 2 ^ q) : (i * j).natAbs < 2 ^ (p + q) := by
  rw [Int.natAbs_mul, Nat.pow_add]
  exact Nat.mul_lt_mul'' h1 h2
theorem lg_add {i j : Int} {p : Nat} (h1 : i.natAbs < 2 ^ p) (h2 : j.natAbs < 2 ^ p) : (i + j).natAbs < 2 ^ (p + 1) := by
  rw [Nat.pow_succ]
  have := Int.natAbs_add_le i j
  omega
theorem lg_mono {i : Int} {p q : Nat} (h1 : i.natAbs < 2 ^ p) (h : p ≤ q) : i.natAbs < 2 ^ q := Nat.lt_of_lt_of_le h1 (Nat.pow_le_pow_right (by decide) h)
theorem mulOk_lg {i j : Int} {p q : Nat} (h1 : i.natAbs < 2 ^ p) (h2 : j.natAbs < 2 ^ q) (h : Nat.ble (p + q) 900000 = true) (hp : 0 < p) (hq : 0 < q) : mulOk i j = true := by
  unfold mulOk
  have a := log2_lt hp h1
  have b := log2_lt hq h2
  have c := Nat.le_of_ble_eq_true h
  rw [decide_eq_true_eq]
  omega
theorem oMul_lg {i j : Int} {p q : Nat} (ah : AH) (h1 : i.natAbs < 2 ^ p) (h2 : j.natAbs < 2 ^ q) (h : Nat.ble (p + q) 900000 = true := by rfl) (hp : 0 < p := by decide) (hq : 0 < q := by decide) : oMul (.int i) (.int j) ah = .ok (.int (i * j)) ah := by
  unfold oMul
  simp only
  rw [if_pos (mulOk_lg h1 h2 h hp hq)]
theorem small_lg {i : Int} (h0 : 0 ≤ i) (h : i < 2147483648) : i.natAbs < 2 ^ 31 := by omega
theorem draw_tailB2 {S : List D} {rest : AH} {cells : List Int} {s a b u : Int} (h1 : 0 < b) (h3 : 0 ≤ a) (h4 : a.natAbs < 2 ^ 6000) :
    b_tailB [some (.ref 2), some (.int b), some (.int s), none] (hB S ⟨cells, a, u⟩ rest) = .rt (.int (mixB s a b)) (hB S ⟨cells, a, u⟩ rest) := by
  unfold mixB b_tailB
  have ha : oIx (.ref 2) (.int 2) (hB S ⟨cells, a, u⟩ rest) = .ok (.int a) (hB S ⟨cells, a, u⟩ rest) := hB_at
  generalize hB S ⟨cells, a, u⟩ rest = ah at ha ⊢
  generalize hn1 : (s % 2147483629 + 7919 * a * a + 1) * 48271 % 2147483647 = n1
  have b1 : 0 ≤ s % 2147483629 := Int.emod_nonneg _ (by decide)
  have b2 : s % 2147483629 < 2147483629 := Int.emod_lt_of_pos _ (by decide)
  have b3 : 0 ≤ n1 := by rw [← hn1]; exact Int.emod_nonneg _ (by decide)
  have b4 : n1 < 2147483647 := by rw [← hn1]; exact Int.emod_lt_of_pos _ (by decide)
  generalize hn2 : (n1 * n1 + 69621 * n1 + a) % 2147483587 = n2
  have b5 : 0 ≤ n2 := by rw [← hn2]; exact Int.emod_nonneg _ (by decide)
  have b6 : n2 < 2147483587 := by rw [← hn2]; exact Int.emod_lt_of_pos _ (by decide)
  have c1 : (7919 : Int).natAbs < 2 ^ 13 := by decide
  have d1 := lg_mul c1 h4
  have d2 := lg_mul d1 h4
  have d3 : (s % 2147483629 + 7919 * a * a + 1).natAbs < 2 ^ (13 + 6000 + 6000 + 1 + 1) := lg_add (lg_add (lg_mono (small_lg b1 (by omega)) (by decide)) d2) (lg_mono (p := 1) (by decide) (by decide))
  have m1 : oMul (.int 7919) (.int a) ah = .ok (.int (7919 * a)) ah := oMul_lg ah c1 h4
  have m2 : oMul (.int (7919 * a)) (.int a) ah = .ok (.int (7919 * a * a)) ah := oMul_lg ah d1 h4
  have m3 : oMul (.int (s % 2147483629 + 7919 * a * a + 1)) (.int 48271) ah = .ok (.int ((s % 2147483629 + 7919 * a * a + 1) * 48271)) ah := oMul_lg (q := 16) ah d3 (by decide)
  have m4 : oMul (.int n1) (.int n1) ah = .ok (.int (n1 * n1)) ah := oMul_lg ah (small_lg b3 (by omega)) (small_lg b3 (by omega))
  have m5 : oMul (.int 69621) (.int n1) ah = .ok (.int (69621 * n1)) ah := oMul_lg (p := 17) ah (by decide) (small_lg b3 (by omega))
  have m6 : oMul (.int n2) (.int (n2 / 5 + 39373)) ah = .ok (.int (n2 * (n2 / 5 + 39373))) ah := oMul_lg ah (small_lg b5 (by omega)) (small_lg (by omega) (by omega))
  have q1 : ∀ i : Int, oMod (.int i) (.int 2147483629) ah = .ok (.int (i % 2147483629)) ah := fun i => oMod_int ah (by decide)
  have q2 : ∀ i : Int, oMod (.int i) (.int 2147483647) ah = .ok (.int (i % 2147483647)) ah := fun i => oMod_int ah (by decide)
  have q3 : ∀ i : Int, oMod (.int i) (.int 2147483587) ah = .ok (.int (i % 2147483587)) ah := fun i => oMod_int ah (by decide)
  have q4 : ∀ i : Int, oMod (.int i) (.int 2147483579) ah = .ok (.int (i % 2147483579)) ah := fun i => oMod_int ah (by decide)
  have q5 : ∀ i : Int, oMod (.int i) (.int b) ah = .ok (.int (i % b)) ah := fun i => oMod_int ah h1
  have q6 : ∀ i : Int, oFdiv (.int i) (.int 64) ah = .ok (.int (i / 64)) ah := fun i => oFdiv_int ah (by decide) (by decide)
  have q7 : ∀ i : Int, oFdiv (.int i) (.int 5) ah = .ok (.int (i / 5)) ah := fun i => oFdiv_int ah (by decide) (by decide)
  simp [ha, q1, m1, m2, m3, q2, hn1, m4, m5, q3, hn2, q7, m6, q4, q6, q5]
theorem at_lg {a : Int} {n : Nat} (h0 : 0 ≤ a) (h : a ≤ n) (hn : n < 2 ^ 5999) : (a + 1).natAbs < 2 ^ 6000 := by
  have : (2 : Nat) ^ 6000 = 2 ^ 5999 * 2 := Nat.pow_succ (n := 2) (m := 5999)
  rw [this]
  generalize (2 : Nat) ^ 5999 = M at hn ⊢
  omega
theorem drawB2 {n : Nat} {d : Dk} {b : Int} (h : DOk n d) (hn : n < 2 ^ 5999) (h1 : 0 < b) (h2 : b < 2 ^ 1000) : ∃ (v : Nat) (d' : Dk), (∀ S rest, m_drawB [.ref 2, .int b] (hB S d rest) = .ok (.int v) (hB S d' rest)) ∧ (v : Int) < b ∧ DOk (n + 1) d' := by
  have p18 : ∀ ah, oPow (.int 10) (.int 18) ah = .ok (.int (10 ^ 18)) ah := fun ah => oPow_int ah (by decide)
  obtain ⟨len, lo, hi⟩ := h
  obtain ⟨cells, a, u⟩ := d
  dsimp only at len lo hi
  have la := at_lg lo hi hn
  have ci : ∀ (neg : Bool) (cs : List Int) (ah : AH), lNil neg (cs.map D.int) ah = .ok (if cs = [] then !neg else neg) ah := lNil_ints
  have nat : ∀ i : Int, 0 ≤ i → ((i.toNat : Nat) : Int) = i := fun i h => Int.toNat_of_nonneg h
  rcases List.eq_nil_or_concat cells with rfl | ⟨r, c, rfl⟩
  · have mi := mixB_in (s := u) (a := a + 1) h1
    refine ⟨(mixB u (a + 1) b).toNat, ⟨[], a + 1, u⟩, fun S rest => ?_, by rw [nat _ mi.1]; exact mi.2, by show (0:Nat) ≤ 64; decide, by show 0 ≤ a + 1; omega, by show a + 1 ≤ ((n + 1 : Nat) : Int); omega⟩
    have tl := draw_tailB2 (S := S) (rest := rest) (cells := []) (s := u) (a := a + 1) (u := u) h1 (by omega) la
    unfold m_drawB b_drawB
    rw [fnM_2, sSeq_def, hB_put (v := a + 1) (by simp [hB_at]) (by simp), nat _ mi.1]
    simp [hB_sum, hB_cells, hB_list, ci, tl, hB_fin, -List.map_nil]
  · have md : ∀ ah, oMod (.int c) (.int b) ah = .ok (.int (c % b)) ah := fun ah => oMod_int ah h1
    have fd : ∀ ah, oFdiv (.int c) (.int b) ah = .ok (.int (c / b)) ah := fun ah => oFdiv_int ah h1 h2
    have nn : ¬ (r ++ [c] = []) := by simp
    rw [List.concat_eq_append] at len ⊢
    rw [List.length_append, List.length_singleton] at len
    by_cases hc : (1000000000000000000 : Int) ≤ c
    · have m0 := Int.emod_nonneg c (show b ≠ 0 by omega)
      have m1 := Int.emod_lt_of_pos c h1
      refine ⟨(c % b).toNat, ⟨r ++ [c / b], a + 1, u⟩, fun S rest => ?_, by rw [nat _ m0]; exact m1, by show (r ++ [c / b]).length ≤ 64; simp; omega, by show 0 ≤ a + 1; omega, by show a + 1 ≤ ((n + 1 : Nat) : Int); omega⟩
      have ap : ∀ v, mAppend (.ref 1) [.int v] (hB S ⟨r, a + 1, u⟩ rest) = .ok .non (hB S ⟨r ++ [v], a + 1, u⟩ rest) := fun v => hB_app1 (d := ⟨r, a + 1, u⟩) (by show r.length < 16777216; omega)
      unfold m_drawB b_drawB
      rw [fnM_2, sSeq_def, hB_put (v := a + 1) (by simp [hB_at]) (by simp), nat _ m0]
      simp [hB_sum, hB_cells, hB_list, ci, hB_isList, hB_pop, p18, hc, fd, md, ap, hB_fin, nn, -List.map_append, -List.map_cons]
    · have mi := mixB_in (s := c) (a := a + 1) h1
      refine ⟨(mixB c (a + 1) b).toNat, ⟨r, a + 1, u⟩, fun S rest => ?_, by rw [nat _ mi.1]; exact mi.2, by show r.length ≤ 64; omega, by show 0 ≤ a + 1; omega, by show a + 1 ≤ ((n + 1 : Nat) : Int); omega⟩
      have tl := draw_tailB2 (S := S) (rest := rest) (cells := r) (s := c) (a := a + 1) (u := u) h1 (by omega) la
      unfold m_drawB b_drawB
      rw [fnM_2, sSeq_def, hB_put (v := a + 1) (by simp [hB_at]) (by simp), nat _ mi.1]
      simp [hB_sum, hB_cells, hB_list, ci, tl, hB_isList, hB_pop, p18, hc, hB_fin, nn, -List.map_append, -List.map_cons]
def dksB : Dks where
  at' N ah := ∃ d S rest, ah = hB S d rest ∧ DOk N d
  len := by rintro N ah ⟨d, S, rest, rfl, _⟩; simp [hB]
  stay := by
    rintro N ah ah' ⟨d, S, rest, rfl, h⟩ h3 hs
    match ah', h3 with
    | x :: y :: z :: r, _ =>
      have a := hs 0 (by decide)
      have b := hs 1 (by decide)
      have c := hs 2 (by decide)
      simp only [hB, List.getElem?_cons_zero, List.getElem?_cons_succ, Option.some.injEq] at a b c
      exact ⟨d, S, r, by rw [a, b, c]; rfl, h⟩
  mono := by rintro N M ah ⟨d, S, rest, rfl, h⟩ hl; exact ⟨d, S, rest, rfl, h.mono hl⟩
def dksA : Dks where
  at' N ah := ∃ d S rest, ah = hA S d rest ∧ DOk N d
  len := by rintro N ah ⟨d, S, rest, rfl, _⟩; simp [hA]
  stay := by
    rintro N ah ah' ⟨d, S, rest, rfl, h⟩ h3 hs
    match ah', h3 with
    | x :: y :: z :: r, _ =>
      have a := hs 0 (by decide)
      have b := hs 1 (by decide)
      have c := hs 2 (by decide)
      simp only [hA, List.getElem?_cons_zero, List.getElem?_cons_succ, Option.some.injEq] at a b c
      exact ⟨d, S, r, by rw [a, b, c]; rfl, h⟩
  mono := by rintro N M ah ⟨d, S, rest, rfl, h⟩ hl; exact ⟨d, S, rest, rfl, h.mono hl⟩
def vDraw : List U → ExK → (U → Prop) → Prop
  | [.ref 2, .int b], _, k => (0 < b ∧ b < 2 ^ 250) ∧ ∀ v : Nat, (v : Int) < b → k (.int v)
  | _, _, _ => False
theorem lim_lt {N : Nat} (h : N + cb 1 ≤ LIM) : N < 2 ^ 5999 := by
  unfold LIM at h
  have : (2 : Nat) ^ 5000 ≤ 2 ^ 5999 := Nat.pow_le_pow_right (by decide) (by decide)
  have c : cb 1 = 2 := rfl
  rw [c] at h
  generalize (2 : Nat) ^ 5000 = M at *
  generalize (2 : Nat) ^ 5999 = M' at *
  omega
theorem hB_grow {S : List D} {d d' : Dk} {rest : AH} : Grow (hB S d rest) (hB S d' rest) := ⟨Nat.le_refl _, fun n h3 hn => by
  obtain ⟨m, rfl⟩ : ∃ m, n = m + 3 := ⟨n - 3, by omega⟩
  rfl⟩
theorem lf_drawB : LF dksB 1 m_drawB vDraw := ⟨fun {ok ah N X k us ds} o q kk l x => by
  change Rs ok ah us ds at q
  unfold vDraw at x
  split at x
  · simp only [Rs, R] at q
    obtain ⟨d, es, rfl, rfl, d2, es2, rfl, rfl, rfl⟩ := q
    obtain ⟨d, S, rest, rfl, h⟩ := kk
    obtain ⟨⟨x1, x2⟩, x⟩ := x
    obtain ⟨v, d', h1, h2, h3⟩ := drawB2 h (lim_lt l) x1 (Int.lt_trans x2 (by decide +kernel))
    rw [h1]
    exact ⟨_, x v h2, (show R ok (hB S d' rest) (.int v) (.int v) by simp only [R]), hB_grow, d', S, rest, rfl, h3.mono (by have c : cb 1 = 2 := rfl; rw [c]; omega)⟩
  · exact x.elim⟩
def TrueK : SK := ⟨fun _ => False, fun u => u = .bl true, fun _ => False, fun _ => False, fun _ _ _ => False⟩
end HV
namespace HV
open PySem PySem.Spec PyProof.Rows L2 HA
def vCal (pa : VE (List U)) (f : List U → ExK → (U → Prop) → Prop) : VE U := v1 pa f
section
variable {K : Dks}
def vMaxD : List U → List U → ExK → (U → Prop) → Prop
  | [.lst us], [.int d], _, k => match optAll uInt us with
    | some ns => k (.int (maxOf ns d))
    | none => False
  | _, _, _, _ => False
def RPr : Rl (List (U × U)) (List (D × D)) := ⟨fun ok ah us ds => Rs ok ah (us.map (·.1)) (ds.map (·.1)) ∧ Rs ok ah (us.map (·.2)) (ds.map (·.2)), fun {ok ok' ah ah' a b} h1 h2 h => ⟨Rs.mono h1 h2 (a.map (·.1)) (b.map (·.1)) h.1, Rs.mono h1 h2 (a.map (·.2)) (b.map (·.2)) h.2⟩⟩
def vPairs : List (VE U × VE U) → VE (List (U × U))
  | [] => fun _ _ k => k []
  | (a, b) :: r => fun Γ X k => a Γ X fun x => b Γ X fun y => vPairs r Γ X fun ps => k ((x, y) :: ps)
def uDisp : List (Key × U) → List Key → List U → U
  | [], ks, us => .dK ks us
  | (kk, u) :: r, ks, us => match uPut ks us kk u with
    | .dK ks' us' => uDisp r ks' us'
    | a => a
def vDisp (l : List (VE U × VE U)) : VE U := fun Γ X k => vPairs l Γ X fun ps => match optAll (fun p => (uKey p.1).map fun kk => (kk, p.2)) ps with
  | some kvs => kvs.length ≤ 15 ∧ k (uDisp kvs [] [])
  | none => False
theorem uPut_D {ok : Nat → Prop} {ah : AH} {ks : List Key} {us : List U} {kvs : List (Key × D)} {key : Key} {v : U} {dv : D} (h : OR ok ah (.dK ks us) (.dK kvs)) (q : R ok ah v dv) : ∃ ks' us', uPut ks us key v = .dK ks' us' ∧ OR ok ah (.dK ks' us') (.dK (putD kvs key dv)) := by
  obtain ⟨e6, r'⟩ := h
  unfold uPut putD
  rw [← e6, List.any_map]
  have ea : kvs.any ((fun z => decide (z = key)) ∘ fun x => x.1) = kvs.any fun kv => decide (kv.1 = key) := rfl
  rw [ea]
  split
  · refine ⟨_, _, rfl, ?_, put_Rs q us kvs r'⟩
    rw [List.map_map]
    refine List.map_congr_left fun kv _ => ?_
    show (if kv.1 = key then (kv.1, dv) else kv).1 = kv.1
    split <;> rfl
  · exact ⟨_, _, rfl, by simp, by rw [List.map_append]; exact r'.app (Rs.cons q Rs.nil)⟩
theorem uDisp_D {ok : Nat → Prop} {ah : AH} : ∀ (kus : List (Key × U)) (kds : List (Key × D)) (ks : List Key) (us : List U) (kvs : List (Key × D)), kus.map (·.1) = kds.map (·.1) → Rs ok ah (kus.map (·.2)) (kds.map (·.2)) → OR ok ah (.dK ks us) (.dK kvs) → OR ok ah (uDisp kus ks us) (.dK (kds.foldl (fun acc kv => putD acc kv.1 kv.2) kvs))
  | [], kds, ks, us, kvs, e, r, h => by
    cases kds with
    | nil => exact h
    | cons _ _ => simp at e
  | (kk, u) :: kus, [], ks, us, kvs, e, r, h => by simp at e
  | (kk, u) :: kus, (k2, d) :: kds, ks, us, kvs, e, r, h => by
    simp only [List.map_cons, List.cons.injEq] at e
    obtain ⟨rfl, e⟩ := e
    simp only [List.map_cons, Rs, List.cons.injEq] at r
    obtain ⟨_, _, ⟨rfl, rfl⟩, q, r⟩ := r
    obtain ⟨ks', us', h1, h2⟩ := uPut_D (key := kk) h q
    unfold uDisp
    rw [h1]
    exact uDisp_D kus kds ks' us' _ e r h2
end
end HV
namespace HV
open PySem PySem.Spec PyProof.Rows L2 HA
section
variable {K : Dks}
def uItems : U → List U
  | .lst us => us
  | _ => []
def flatU (yss : List U) : List U := (yss.map uItems).flatten
def vInn (pi1 : VE (List U)) (vt1 : VTM) (pt1 : VE Bool) (pe : VE U) (vs1 : List Nat) : VE U := fun Γ X k => pi1 Γ XF fun us1 => us1.length ≤ 4096 ∧ vLcL vt1 pt1 pe (wipeU Γ vs1) us1 fun ys => k (.lst ys)
def vLc2 (pi : VE (List U)) (vt : VTM) (pt : VE Bool) (pi1 : VE (List U)) (vt1 : VTM) (pt1 : VE Bool) (pe : VE U) (vs vs1 : List Nat) : VE U := fun Γ X k => pi Γ X fun us => us.length ≤ 4096 ∧ vLcL vt pt (vInn pi1 vt1 pt1 pe vs1) (wipeU Γ vs) us fun yss => k (.lst (flatU yss))
structure GrowX (n : Nat) (ah ah' : AH) : Prop where
  len : ah.length ≤ ah'.length
  same : ∀ m, 3 ≤ m → m ≠ n → m < ah.length → ah'[m]? = ah[m]?
theorem GrowX.of {n : Nat} {ah ah' : AH} (g : Grow ah ah') : GrowX n ah ah' := ⟨g.len, fun m h3 _ hm => g.same m h3 hm⟩
theorem GrowX.trans {n : Nat} {a b c : AH} (h : GrowX n a b) (k : GrowX n b c) : GrowX n a c := ⟨Nat.le_trans h.len k.len, fun m h3 hn hm => (k.same m h3 hn (Nat.lt_of_lt_of_le hm h.len)).trans (h.same m h3 hn hm)⟩
theorem GrowX.set {n : Nat} {ah : AH} {o : AObj} : GrowX n ah (ah.set n o) := ⟨by rw [List.length_set]; exact Nat.le_refl _, fun m _ hn _ => List.getElem?_set_ne (fun e => hn e.symm)⟩
theorem GrowX.sta {ok : Nat → Prop} {n : Nat} {ah ah' : AH} (g : GrowX n ah ah') (h : OkF ok ah) (hn : ¬ ok n) : Sta ok ah ah' := fun m o hm e => by
  rw [g.same m (h.three m hm) (fun z => hn (z ▸ hm)) (List.getElem?_eq_some_iff.mp e).1]; exact e
theorem OkF.growX {ok : Nat → Prop} {n : Nat} {ah ah' : AH} (h : OkF ok ah) (g : GrowX n ah ah') : OkF ok ah' := ⟨h.three, fun m hm => h.fresh m (Nat.le_trans g.len hm)⟩
theorem EnvR.sta {ok : Nat → Prop} {ah ah' : AH} {Γ : UEnv} {env : HA.Env} (h : EnvR ok ah Γ env) (s : Sta ok ah ah') : EnvR ok ah' Γ env := ⟨h.len, fun i u e => let ⟨d, e1, r⟩ := h.at' i u e; ⟨d, e1, R.mono (fun _ h => h) s _ _ r⟩⟩
def MkR (K : Dks) (ok : Nat → Prop) (n : Nat) (ah : AH) (N : Nat) (k : List U → Prop) : Option AH → Prop
  | some ah' => ∃ ys acc, k ys ∧ ah'[n]? = some (.lst acc) ∧ Rs ok ah' ys acc ∧ GrowX n ah ah' ∧ K.at' N ah'
  | none => False
theorem MkR.le {ok : Nat → Prop} {n : Nat} {ah : AH} {N M : Nat} {k : List U → Prop} {r : Option AH} (h : MkR K ok n ah N k r) (hM : N ≤ M) : MkR K ok n ah M k r := by
  cases r with
  | none => exact h
  | some a => obtain ⟨ys, acc, h1, h2, h3, h4, h5⟩ := h; exact ⟨ys, acc, h1, h2, h3, h4, K.mono h5 hM⟩
theorem MkR.after {ok : Nat → Prop} {n : Nat} {ah ah1 : AH} {N : Nat} {k : List U → Prop} {r : Option AH} (h : MkR K ok n ah1 N k r) (g : GrowX n ah ah1) : MkR K ok n ah N k r := by
  cases r with
  | none => exact h
  | some a => obtain ⟨ys, acc, h1, h2, h3, h4, h5⟩ := h; exact ⟨ys, acc, h1, h2, h3, g.trans h4, h5⟩
theorem MkR.weak {ok : Nat → Prop} {n : Nat} {ah : AH} {N : Nat} {k k' : List U → Prop} {r : Option AH} (h : MkR K ok n ah N k r) (hk : ∀ ys, k ys → k' ys) : MkR K ok n ah N k' r := by
  cases r with
  | none => exact h
  | some a => obtain ⟨ys, acc, h1, h2⟩ := h; exact ⟨ys, acc, hk _ h1, h2⟩
theorem lcH_V {c c' n : Nat} {t : Itm} {tm : TM} {vt : VTM} {ts : List Nat} {test : EM Bool} {elt : EM D} {pt : VE Bool} {pe : VE U} {vs : List Nat} {env : HA.Env} {Γ : UEnv} {ok : Nat → Prop} (hn : ¬ ok n) (h3 : 3 ≤ n) (hT : LTg tm vt ts) (ht : LE K (REq Bool) c test pt) (he : LE K RU c' elt pe) :
    ∀ (us : List U) (ds : List D) (ua : List U) (acc : List D) (ah : AH) (N : Nat) (k : List U → Prop), OkF ok ah → EnvR ok ah Γ env → K.at' N ah → (∀ p, p ∈ t.guard → ok p.1 ∧ ah[p.1]? = some (.lst p.2)) → N + us.length * cb (sq c c') ≤ LIM → Rs ok ah us ds → ah[n]? = some (.lst acc) → Rs ok ah ua acc → acc.length + us.length ≤ line → (vLcL vt pt pe (wipeU Γ vs) us fun ys => k (ua ++ ys)) →
      MkR K ok n ah (N + us.length * cb (sq c c')) (fun ys => k ys ∧ ys.length ≤ ua.length + us.length) (lcH n t tm test elt vs env ds ah)
  | [], ds, ua, acc, ah, N, k, o, e, kk, hg, l, r, en, ra, hl, x => by
    simp only [Rs] at r
    subst r
    unfold lcH
    rw [if_pos (okIn_of fun p hp => (hg p hp).2)]
    unfold vLcL at x
    rw [List.append_nil] at x
    exact ⟨ua, acc, ⟨x, by simp⟩, en, ra, GrowX.of Grow.refl, by simpa using kk⟩
  | u :: us, ds, ua, acc, ah, N, k, o, e, kk, hg, l, r, en, ra, hl, x => by
    simp only [Rs] at r
    obtain ⟨d, ds, rfl, q, r⟩ := r
    have s := cb_sq c c'
    rw [List.length_cons, Nat.add_mul, Nat.one_mul] at l
    rw [List.length_cons] at hl
    unfold vLcL at x
    split at x
    · rename_i bs hb
      obtain ⟨cs, h1, h2, _⟩ := hT.to (wipeE env vs) q hb
      have e1 : EnvR ok ah (setU (wipeU Γ vs) bs) (setD (wipeE env vs) cs) := (e.wipe vs).sets h2
      unfold lcH
      rw [if_pos (okIn_of fun p hp => (hg p hp).2), h1]
      simp only
      have w := ht.to o e1 kk (by omega) x
      cases z : test (setD (wipeE env vs) cs) ah with
      | stuck => rw [z] at w; exact w.elim
      | exn a f h => rw [z] at w; obtain ⟨f, y, _⟩ := w; exact y.elim
      | ok b ah1 =>
        rw [z] at w
        obtain ⟨b', kb, rfl, g, k1⟩ := w
        have o1 := o.grow g
        have en1 : ah1[n]? = some (.lst acc) := by rw [g.same n h3 (List.getElem?_eq_some_iff.mp en).1]; exact en
        have hg1 : ∀ p, p ∈ t.guard → ok p.1 ∧ ah1[p.1]? = some (.lst p.2) := fun p hp => ⟨(hg p hp).1, g.sta o _ _ (hg p hp).1 (hg p hp).2⟩
        cases b' with
        | true =>
          simp only [if_true] at kb ⊢
          have w := he.to o1 (e1.grow o g) k1 (by omega) kb
          cases z : elt (setD (wipeE env vs) cs) ah1 with
          | stuck => rw [z] at w; exact w.elim
          | exn a f h => rw [z] at w; obtain ⟨f, y, _⟩ := w; exact y.elim
          | ok y ah2 =>
            rw [z] at w
            obtain ⟨y', ky, qy, g2, k2⟩ := w
            have gg := g.trans g2
            have en2 : ah2[n]? = some (.lst acc) := by rw [g2.same n h3 (List.getElem?_eq_some_iff.mp en1).1]; exact en1
            have hnl : n < ah2.length := (List.getElem?_eq_some_iff.mp en2).1
            simp only
            unfold HA.putAt
            rw [en2]
            simp only
            rw [if_pos (by omega)]
            simp only
            have gx : GrowX n ah (ah2.set n (.lst (acc ++ [y]))) := (GrowX.of gg).trans GrowX.set
            have st := gx.sta o hn
            have st2 : Sta ok ah2 (ah2.set n (.lst (acc ++ [y]))) := GrowX.set.sta (o1.grow g2) hn
            have raa : Rs ok ah2 (ua ++ [y']) (acc ++ [y]) := (ra.grow o gg).app (Rs.cons qy Rs.nil)
            have := lcH_V hn h3 hT ht he us ds (ua ++ [y']) (acc ++ [y]) (ah2.set n (.lst (acc ++ [y]))) (N + cb c + cb c') k (o.growX gx) (e.sta st) (Dks.set k2 h3) (fun p hp => ⟨(hg p hp).1, st _ _ (hg p hp).1 (hg p hp).2⟩) (by omega) (Rs.mono (fun _ h => h) st _ _ r) (List.getElem?_set_self hnl) (Rs.mono (fun _ h => h) st2 _ _ raa) (by rw [List.length_append, List.length_singleton]; omega) (by simpa [List.append_assoc] using ky)
            refine ((this.after gx).le (by rw [List.length_cons, Nat.add_mul, Nat.one_mul]; omega)).weak fun ys h => ⟨h.1, ?_⟩
            have := h.2
            rw [List.length_append, List.length_singleton] at this
            rw [List.length_cons]
            omega
        | false =>
          simp only [Bool.false_eq_true, if_false] at kb ⊢
          have := lcH_V hn h3 hT ht he us ds ua acc ah1 (N + cb c) k o1 (e.grow o g) k1 hg1 (by omega) (r.grow o g) en1 (ra.grow o g) (by omega) kb
          refine ((this.after (GrowX.of g)).le (by rw [List.length_cons, Nat.add_mul, Nat.one_mul]; omega)).weak fun ys h => ⟨h.1, ?_⟩
          have := h.2
          rw [List.length_cons]
          omega
    · exact x.elim
theorem flatU_cons (ys : List U) (yss : List U) : flatU (.lst ys :: yss) = ys ++ flatU yss := rfl
theorem lcH2_V {c ci c1 c' n : Nat} {t : Itm} {tm tm1 : TM} {vt vt1 : VTM} {ts ts1 : List Nat} {test test1 : EM Bool} {mi1 : EM Itm} {elt : EM D} {pt pt1 : VE Bool} {pi1 : VE (List U)} {pe : VE U} {vs vs1 : List Nat} {env : HA.Env} {Γ : UEnv} {ok : Nat → Prop} (hn : ¬ ok n) (h3 : 3 ≤ n) (hT : LTg tm vt ts) (ht : LE K (REq Bool) c test pt) (hi1 : LE K RIt ci mi1 pi1) (hT1 : LTg tm1 vt1 ts1) (ht1 : LE K (REq Bool) c1 test1 pt1) (he : LE K RU c' elt pe) :
    ∀ (us : List U) (ds : List D) (ua : List U) (acc : List D) (ah : AH) (N : Nat) (k : List U → Prop), OkF ok ah → EnvR ok ah Γ env → K.at' N ah → (∀ p, p ∈ t.guard → ok p.1 ∧ ah[p.1]? = some (.lst p.2)) → N + us.length * cb (sq c (sq ci (lp (sq c1 c')))) ≤ LIM → Rs ok ah us ds → ah[n]? = some (.lst acc) → Rs ok ah ua acc → acc.length + us.length * 4096 ≤ line → (vLcL vt pt (vInn pi1 vt1 pt1 pe vs1) (wipeU Γ vs) us fun yss => k (ua ++ flatU yss)) →
      MkR K ok n ah (N + us.length * cb (sq c (sq ci (lp (sq c1 c'))))) k (lcH2 n t tm test mi1 tm1 test1 elt vs vs1 env ds ah)
  | [], ds, ua, acc, ah, N, k, o, e, kk, hg, l, r, en, ra, hl, x => by
    simp only [Rs] at r
    subst r
    unfold lcH2
    rw [if_pos (okIn_of fun p hp => (hg p hp).2)]
    unfold vLcL at x
    rw [show flatU [] = [] from rfl, List.append_nil] at x
    exact ⟨ua, acc, x, en, ra, GrowX.of Grow.refl, by simpa using kk⟩
  | u :: us, ds, ua, acc, ah, N, k, o, e, kk, hg, l, r, en, ra, hl, x => by
    simp only [Rs] at r
    obtain ⟨d, ds, rfl, q, r⟩ := r
    have s := cb_sq c (sq ci (lp (sq c1 c')))
    have s' := cb_sq ci (lp (sq c1 c'))
    rw [List.length_cons, Nat.add_mul, Nat.one_mul] at l
    rw [List.length_cons] at hl
    unfold vLcL at x
    split at x
    · rename_i bs hb
      obtain ⟨cs, h1, h2, _⟩ := hT.to (wipeE env vs) q hb
      have e1 : EnvR ok ah (setU (wipeU Γ vs) bs) (setD (wipeE env vs) cs) := (e.wipe vs).sets h2
      unfold lcH2
      rw [if_pos (okIn_of fun p hp => (hg p hp).2), h1]
      simp only
      have w := ht.to o e1 kk (by omega) x
      cases z : test (setD (wipeE env vs) cs) ah with
      | stuck => rw [z] at w; exact w.elim
      | exn a f h => rw [z] at w; obtain ⟨f, y, _⟩ := w; exact y.elim
      | ok b ah1 =>
        rw [z] at w
        obtain ⟨b', kb, rfl, g, k1⟩ := w
        have o1 := o.grow g
        have en1 : ah1[n]? = some (.lst acc) := by rw [g.same n h3 (List.getElem?_eq_some_iff.mp en).1]; exact en
        have hg1 : ∀ p, p ∈ t.guard → ok p.1 ∧ ah1[p.1]? = some (.lst p.2) := fun p hp => ⟨(hg p hp).1, g.sta o _ _ (hg p hp).1 (hg p hp).2⟩
        cases b' with
        | true =>
          simp only [if_true] at kb ⊢
          change pi1 (setU (wipeU Γ vs) bs) XF (fun us1 => us1.length ≤ 4096 ∧ vLcL vt1 pt1 pe (wipeU (setU (wipeU Γ vs) bs) vs1) us1 fun ys => vLcL vt pt (vInn pi1 vt1 pt1 pe vs1) (wipeU Γ vs) us fun yss => k (ua ++ flatU (U.lst ys :: yss))) at kb
          have w := hi1.to o1 (e1.grow o g) k1 (by omega) kb
          cases z : mi1 (setD (wipeE env vs) cs) ah1 with
          | stuck => rw [z] at w; exact w.elim
          | exn a f h => rw [z] at w; obtain ⟨f, y, _⟩ := w; exact y.elim
          | ok t1 ah2 =>
            rw [z] at w
            obtain ⟨us1, ⟨hl1, ky⟩, ⟨qi, hgi⟩, g2, k2⟩ := w
            have gg := g.trans g2
            have en2 : ah2[n]? = some (.lst acc) := by rw [g2.same n h3 (List.getElem?_eq_some_iff.mp en1).1]; exact en1
            have b1 := cb_lp (sq c1 c') us1.length (by omega)
            simp only
            have w := lcH_V hn h3 hT1 ht1 he us1 t1.items ua acc ah2 (N + cb c + cb ci) (fun zs => vLcL vt pt (vInn pi1 vt1 pt1 pe vs1) (wipeU Γ vs) us fun yss => k (zs ++ flatU yss)) (o1.grow g2) (e1.grow o gg) k2 hgi (by omega) qi en2 (ra.grow o gg) (by omega)
              (by
                have ky := ky
                simp only [flatU_cons] at ky
                simpa only [List.append_assoc] using ky)
            cases z2 : lcH n t1 tm1 test1 elt vs1 (setD (wipeE env vs) cs) t1.items ah2 with
            | none => rw [z2] at w; exact w.elim
            | some ah3 =>
              rw [z2] at w
              obtain ⟨zs, acc', ⟨kz, lz⟩, en3, r3, g3, k3⟩ := w
              simp only
              have gx : GrowX n ah ah3 := (GrowX.of gg).trans g3
              have st := gx.sta o hn
              have lr := r3.len
              have la := ra.len
              have := lcH2_V hn h3 hT ht hi1 hT1 ht1 he us ds zs acc' ah3 (N + cb c + cb ci + us1.length * cb (sq c1 c')) k (o.growX gx) (e.sta st) k3 (fun p hp => ⟨(hg p hp).1, st _ _ (hg p hp).1 (hg p hp).2⟩) (by omega) (Rs.mono (fun _ h => h) st _ _ r) en3 r3 (by omega) kz
              exact (this.after gx).le (by rw [List.length_cons, Nat.add_mul, Nat.one_mul]; omega)
        | false =>
          simp only [Bool.false_eq_true, if_false] at kb ⊢
          have := lcH2_V hn h3 hT ht hi1 hT1 ht1 he us ds ua acc ah1 (N + cb c) k o1 (e.grow o g) k1 hg1 (by omega) (r.grow o g) en1 (ra.grow o g) (by omega) kb
          exact (this.after (GrowX.of g)).le (by rw [List.length_cons, Nat.add_mul, Nat.one_mul]; omega)
    · exact x.elim
theorem ln_lc2 {cm c ci c1 c' : Nat} {mi mi1 : EM Itm} {tm tm1 : TM} {vt vt1 : VTM} {ts ts1 : List Nat} {test test1 : EM Bool} {elt : EM D} {pi pi1 : VE (List U)} {pt pt1 : VE Bool} {pe : VE U} {vs vs1 : List Nat} (hi : LE K RIt cm mi pi) (hT : LTg tm vt ts) (ht : LE K (REq Bool) c test pt) (hi1 : LE K RIt ci mi1 pi1) (hT1 : LTg tm1 vt1 ts1) (ht1 : LE K (REq Bool) c1 test1 pt1) (he : LE K RU c' elt pe) :
    LN (K := K) (sq cm (lp (sq c (sq ci (lp (sq c1 c')))))) (eLc2 mi tm test mi1 tm1 test1 elt vs vs1) (vLc2 pi vt pt pi1 vt1 pt1 pe vs vs1) := ⟨fun {ok Γ env ah N X k} o e kk l x => by
  have s := cb_sq cm (lp (sq c (sq ci (lp (sq c1 c')))))
  have w := hi.to o e kk (by omega) x
  unfold eLc2
  cases z : mi env ah with
  | stuck => rw [z] at w; exact w
  | exn a f h => rw [z] at w; obtain ⟨f, y, q, g, k1⟩ := w; exact ⟨f, y, q, g, K.mono k1 (by omega)⟩
  | ok t ah1 =>
    rw [z] at w
    obtain ⟨us, ⟨hl, ka⟩, ⟨q, hg⟩, g, k1⟩ := w
    have b := cb_lp (sq c (sq ci (lp (sq c1 c')))) us.length (by omega)
    rw [Res.bind_ok]
    have q : Rs ok ah1 us t.items := q
    have hg : ∀ p, p ∈ t.guard → ok p.1 ∧ ah1[p.1]? = some (.lst p.2) := hg
    have up : ∀ m, (ok m ∧ m < ah1.length) → (ok m ∧ m ≠ ah1.length) := fun m h => ⟨h.1, Nat.ne_of_lt h.2⟩
    have st : Sta (fun m => ok m ∧ m < ah1.length) ah1 (ah1 ++ [.lst []]) := fun m o' h e => by rw [List.getElem?_append_left h.2]; exact e
    have o1 := o.grow g
    have ox : OkF (fun m => ok m ∧ m ≠ ah1.length) (ah1 ++ [.lst []]) := ⟨fun m h => o1.three m h.1, fun m hm => by
      rw [List.length_append, List.length_singleton] at hm
      exact ⟨o1.fresh m (by omega), by omega⟩⟩
    have e1 := e.grow o g
    have ex : EnvR (fun m => ok m ∧ m ≠ ah1.length) (ah1 ++ [.lst []]) Γ env := ⟨e1.len, fun i u ei => let ⟨d, e2, r⟩ := e1.at' i u ei; ⟨d, e2, R.mono up st _ _ (R.inb _ _ r)⟩⟩
    have w := lcH2_V (ok := fun m => ok m ∧ m ≠ ah1.length) (n := ah1.length) (fun h => h.2 rfl) (K.len k1) hT ht hi1 hT1 ht1 he us t.items [] [] (ah1 ++ [.lst []]) (N + cb cm) (fun ys => k (.lst ys)) ox ex (K.app _ k1)
      (fun p hp => ⟨⟨(hg p hp).1, Nat.ne_of_lt (List.getElem?_eq_some_iff.mp (hg p hp).2).1⟩, by rw [List.getElem?_append_left (List.getElem?_eq_some_iff.mp (hg p hp).2).1]; exact (hg p hp).2⟩) (by omega) (Rs.mono up st _ _ (Rs.inb _ _ q)) (by simp) Rs.nil (by simp [line]; omega) (by simpa using ka)
    cases z2 : lcH2 ah1.length t tm test mi1 tm1 test1 elt vs vs1 env t.items (ah1 ++ [.lst []]) with
    | none => rw [z2] at w; exact w.elim
    | some ah2 =>
      rw [z2] at w
      obtain ⟨ys, acc, ky, en, r, gx, k2⟩ := w
      have gl := gx.len
      rw [List.length_append, List.length_singleton] at gl
      refine ⟨.lst ys, ah1.length, .lst acc, ky, rfl, g.len, en, r, g.trans ⟨by omega, fun m h3 hm => ?_⟩, K.mono k2 (by omega)⟩
      rw [gx.same m h3 (Nat.ne_of_lt hm) (by rw [List.length_append, List.length_singleton]; omega), List.getElem?_append_left hm]⟩
def uSeq : U → Option (List U)
  | .tup us => some us
  | .lst us => some us
  | _ => none
def vZip (st : Bool) (u v : U) (_ : ExK) (k : List U → Prop) : Prop := match uSeq u, uSeq v with
  | some xs, some ys => (st = true → xs.length = ys.length) ∧ k ((xs.zip ys).map fun p => .tup [p.1, p.2])
  | _, _ => False
theorem part_R {ok : Nat → Prop} {ah : AH} {u : U} {d : D} {us : List U} (h : R ok ah u d) (e : uSeq u = some us) : ∃ ds g, partOf d ah = some (ds, g) ∧ Rs ok ah us ds ∧ ∀ p, p ∈ g → ok p.1 ∧ ah[p.1]? = some (.lst p.2) := by
  unfold uSeq at e
  split at e
  · cases e
    simp only [R] at h
    obtain ⟨ds, rfl, r⟩ := h
    exact ⟨ds, [], rfl, r, fun p hp => by cases hp⟩
  · cases e
    simp only [R] at h
    obtain ⟨n, ds, rfl, on, q, r⟩ := h
    refine ⟨ds, [(n, ds)], ?_, r, fun p hp => by simp only [List.mem_singleton] at hp; subst hp; exact ⟨on, q⟩⟩
    unfold partOf HA.listAt
    simp only [q]
    rfl
  · cases e
def uPair : U → Option (Int × Int)
  | .tup [.int a, .int b] => some (a, b)
  | _ => none
def uOfPair (p : Int × Int) : U := .tup [.int p.1, .int p.2]
def vSort (us : List U) (_ : ExK) (k : List U → Prop) : Prop := match optAll uInt us with
  | some ns => k ((ns.mergeSort intLe).map U.int)
  | none => match optAll uPair us with
    | some ps => k ((ps.mergeSort lexLe).map uOfPair)
    | none => False
end
end HV
namespace HV
open PySem PySem.Spec PyProof.Rows L2 HA
section
variable {K : Dks} {F : Bool} {L : List Nat} {E : Option (List Nat)} {own own' own1 own2 : List Nat}
def vCD (t : CTab) : U → ExK → (U → Prop) → Prop
  | .str z, _, k => match t.lookup z with
    | some d => k (toU d)
    | none => False
  | _, _, _ => False
abbrev VTab := List (Str × (List U → ExK → (U → Prop) → Prop))
inductive TabR (K : Dks) (c : Nat) : MTab → VTab → Prop
  | nil : TabR K c [] []
  | cons {f : Str} {m : List D → AH → Res D} {p : List U → ExK → (U → Prop) → Prop} {t : MTab} {v : VTab} (h : LF K c m p) (r : TabR K c t v) : TabR K c ((f, m) :: t) ((f, p) :: v)
theorem TabR.look {c : Nat} {f : Str} {p : List U → ExK → (U → Prop) → Prop} : ∀ {t : MTab} {v : VTab}, TabR K c t v → v.lookup f = some p → ∃ m, t.lookup f = some m ∧ LF K c m p
  | _, _, .nil, h => by simp at h
  | _, _, .cons (f := g) h0 r, h => by
    rw [List.lookup_cons] at h ⊢
    split at h
    · cases h; exact ⟨_, by simp [*], h0⟩
    · obtain ⟨m, e, z⟩ := r.look h
      exact ⟨m, by simp [*], z⟩
def vCallL (i : Nat) (t : VTab) (pa : VE (List U)) : VE U := fun Γ X k => match Γ[i]? with
  | some (some (.glo f)) => match t.lookup f with
    | some p => pa Γ X fun us => p us X k
    | none => False
  | _ => False
def vCal2 (pa pb : VE (List U)) (f : List U → List U → ExK → (U → Prop) → Prop) : VE U := v2 pa pb f
structure LF2 (K : Dks) (c : Nat) (m : List D → List D → AH → Res D) (p : List U → List U → ExK → (U → Prop) → Prop) : Prop where
  to : ∀ {ok : Nat → Prop} {ah : AH} {N : Nat} {X : ExK} {k : U → Prop} {us ws : List U} {ds fs : List D}, OkF ok ah → Rs ok ah us ds → Rs ok ah ws fs → K.at' N ah → N + cb c ≤ LIM → p us ws X k → PR K ok ah (N + cb c) RU X k (m ds fs ah)
def vFld (f : Str) : U → ExK → (U → Prop) → Prop
  | .ins _ fs us, _, k => match (fs.zip us).lookup f with
    | some u => k u
    | none => False
  | _, _, _ => False
def vFldC (C : List (Str × List Str)) (f : Str) : U → ExK → (U → Prop) → Prop
  | .ins c fs us, X, k => (match C.lookup c with
    | some l => f ∈ l
    | none => False) ∧ vFld f (.ins c fs us) X k
  | _, _, _ => False
def vRaise (x f : Str) (pa : VE (List U)) : VS := fun Γ S => pa Γ (fun a g => S.ex a g Γ) fun us => us.length = 1 ∧ S.ex x (some ([f], us)) Γ
def xvU : EF → U
  | none => .xv 0 0 [] []
  | some (ks, us) => .xv 0 0 ks us
def flatF : EF → Bool
  | none => true
  | some (_, us) => U.flats us
structure VHnd where
  c : Str
  i : Option Nat
  p : Str → Bool → VS
def vSui (i : Option Nat) (p : VS) (f : EF) : VS := fun Γ S => match i with
  | none => p Γ ⟨S.nx, S.rt, S.bk, S.ct, fun _ _ _ => False⟩
  | some i => p (Γ.set i (some (xvU f))) ⟨fun Γ' => S.nx (Γ'.set i none), S.rt, fun Γ' => S.bk (Γ'.set i none), fun Γ' => S.ct (Γ'.set i none), fun _ _ _ => False⟩
def vHnd (t : STab) : List VHnd → Str → EF → VS
  | [], c, f => fun Γ S => S.ex c f Γ
  | h :: r, c, f => fun Γ S => match sLook t c h.c with
    | some true => vSui h.i (h.p c (Option.isSome f)) f Γ S
    | some false => vHnd t r c f Γ S
    | none => False
def vTry (ow : List Nat) (t : STab) (p : VS) (l : List VHnd) : VS := fun Γ S => p Γ ⟨S.nx, S.rt, S.bk, S.ct, fun c f Γ' => (ow ≠ [] → flatF f = true) ∧ vHnd t l c f Γ' S⟩
section
variable {ok : Nat → Prop} {b : Nat} {Γ : UEnv} {env : HA.Env} {ah : AH}
theorem StR.unset (S : StR ok b own Γ env ah) {i : Nat} (hi : i ∉ own) : StR ok b own (Γ.set i none) (env.set i none) ah := by
  have up : ∀ n, av ok env own n → av ok (env.set i none) own n := fun n a => ⟨a.1, fun j hj e => by
    by_cases h : i = j
    · exact hi (h ▸ hj)
    · rw [List.getElem?_set_ne h] at e; exact a.2 j hj e⟩
  have ne : ∀ j, j ∈ own → i ≠ j := fun j hj z => hi (z ▸ hj)
  refine ⟨by simp [S.len], S.bl, fun j u hj e => ?_, fun j hj => ?_, fun j k n hj hk e1 e2 => ?_⟩
  · by_cases h : i = j
    · subst h
      by_cases hl : i < Γ.length
      · rw [List.getElem?_set_self hl] at e; cases e
      · rw [List.getElem?_eq_none (by simpa using hl)] at e; cases e
    · rw [List.getElem?_set_ne h] at e
      obtain ⟨d, e1, r⟩ := S.sh j u hj e
      exact ⟨d, by rw [List.getElem?_set_ne h]; exact e1, R.mono up Sta.refl _ _ r⟩
  · obtain ⟨n, o, u, e1, e2, e3, e4, e5⟩ := S.ow j hj
    exact ⟨n, o, u, by rw [List.getElem?_set_ne (ne j hj)]; exact e1, e2, e3, by rw [List.getElem?_set_ne (ne j hj)]; exact e4, e5.mono up Sta.refl⟩
  · rw [List.getElem?_set_ne (ne j hj)] at e1
    rw [List.getElem?_set_ne (ne k hk)] at e2
    exact S.inj j k n hj hk e1 e2
theorem PreS.unset {own0 : List Nat} {env0 : HA.Env} {ah0 : AH} (p : PreS b own0 env0 ah0 own env ah) {i : Nat} (hi : i ∉ own) : PreS b own0 env0 ah0 own (env.set i none) ah :=
  ⟨p.len, p.same, p.old, fun j n hj e hn => by
    by_cases h : i = j
    · exact absurd (h ▸ hj) hi
    · rw [List.getElem?_set_ne h] at e; exact p.refs j n hj e hn⟩
end
def LSui (K : Dks) (F : Bool) (L : List Nat) (c0 : Nat) (ow own' : List Nat) (i : Option Nat) (m : SuiM) (p : Str → Bool → VS) : Prop :=
  ∀ (c : Str) (od : Option Addr), (∀ x, od = some x → x = 0) → LS K F L none c0 ow own' (m 0 od c) (p c od.isSome)
inductive LHs (K : Dks) (F : Bool) (L : List Nat) (c0 : Nat) (ow own' : List Nat) : List Hnd → List VHnd → Prop
  | nil : LHs K F L c0 ow own' [] []
  | one {C : Str} {m : SuiM} {p : Str → Bool → VS} {l : List Hnd} {v : List VHnd} (h : LSui K F L c0 ow own' none m p) (r : LHs K F L c0 ow own' l v) : LHs K F L c0 ow own' (⟨C, none, m⟩ :: l) (⟨C, none, p⟩ :: v)
  | named {C : Str} {i : Nat} {m : SuiM} {p : Str → Bool → VS} {l : List Hnd} {v : List VHnd} (h : LSui K F L c0 ow own' (some i) m p) (hi : ow.contains i = false) (hi' : own'.contains i = false) (hL : L.contains i = false) (r : LHs K F L c0 ow own' l v) : LHs K F L c0 ow own' (⟨C, some i, m⟩ :: l) (⟨C, some i, p⟩ :: v)
def vXf (cs : List Str) (c f : Str) (b : Bool) : U → ExK → (U → Prop) → Prop
  | .xv 0 0 ks us, _, k => (b = true ∧ c ∈ cs) ∧ match (ks.zip us).lookup f with
    | some u => k u
    | none => False
  | _, _, _ => False
def uD : U → Option D
  | .glo x => some (.glo x)
  | .cst v => some (.cst v)
  | _ => none
def vXis (tab : XTab) (c : Str) (b : Bool) : List U → ExK → (U → Prop) → Prop
  | [.xv 0 0 ks _, .tup us], _, k => (b = true → ks ≠ []) ∧ match optAll uD us with
    | some ds => ((ds.all fun d => (xLook tab c d).isSome) = true ∧ ds ≠ []) ∧ match xAny tab c ds with
      | some r => k (.bl r)
      | none => False
    | none => False
  | [.xv 0 0 ks _, u], _, k => (b = true → ks ≠ []) ∧ match uD u with
    | some d => match xLook tab c d with
      | some r => k (.bl r)
      | none => False
    | none => False
  | _, _, _ => False
def numU : Nat → List U → List U
  | _, [] => []
  | i, u :: us => .tup [.int i, u] :: numU (i + 1) us
theorem num_Rs {ok : Nat → Prop} {ah : AH} : ∀ {us : List U} {ds : List D} (i : Nat), Rs ok ah us ds → Rs ok ah (numU i us) (numD i ds)
  | [], ds, i, r => by simp only [Rs] at r; subst r; exact Rs.nil
  | u :: us, ds, i, r => by
    simp only [Rs] at r
    obtain ⟨d, es, rfl, q, r⟩ := r
    exact Rs.cons (by simp only [R]; exact ⟨_, rfl, Rs.cons (by simp only [R]) (Rs.cons q Rs.nil)⟩) (num_Rs (i + 1) r)
def vEnum (u : U) (_ : ExK) (k : List U → Prop) : Prop := match uSeq u with
  | some us => k (numU 0 us)
  | none => False
theorem lo_enum : LO1 K RU RIt 0 iEnumD vEnum := ⟨fun {ok ah N X k a b} o q kk l x => by
  change R ok ah a b at q
  unfold vEnum at x
  split at x
  · rename_i us e
    obtain ⟨ds, g, p1, r1, g1⟩ := part_R q e
    unfold iEnumD
    rw [p1]
    exact .okI x ⟨num_Rs 0 r1, g1⟩ kk
  · exact x.elim⟩
def vIndexS : U → List U → ExK → (U → Prop) → Prop
  | .str a, [.str b], _, k => match strIx a b with
    | some i => k (.int i)
    | none => False
  | _, _, _, _ => False
def vMs (pm : VE U) (pa : VE (List U)) (f : U → List U → ExK → (U → Prop) → Prop) : VE U := fun Γ X k => pm Γ X fun u => (∃ x, u = .str x) ∧ pa Γ X fun us => f u us X k
structure LOM (K : Dks) (f : D → List D → AH → Res D) (p : U → List U → ExK → (U → Prop) → Prop) : Prop where
  to : ∀ {ok : Nat → Prop} {ah : AH} {N : Nat} {X : ExK} {k : U → Prop} {u : U} {us : List U} {d : D} {ds : List D}, OkF ok ah → R ok ah u d → Rs ok ah us ds → K.at' N ah → p u us X k → PR K ok ah N RU X k (f d ds ah)
end
end HV
namespace HV
open PySem PySem.Spec PyProof.Rows L2 HA
section
variable {K : Dks} {F : Bool} {L : List Nat} {E : Option (List Nat)} {own own' own1 own2 : List Nat}
def putK (f : Str) : List Str → List Str
  | [] => [f]
  | g :: r => if g = f then g :: r else g :: putK f r
def putV (f : Str) (v : U) : List Str → List U → List U
  | [], _ => [v]
  | g :: r, us => match us with
    | [] => []
    | u :: us => if g = f then v :: us else u :: putV f v r us
def hasF (C : List (Str × List Str)) (c f : Str) : Bool := match C.lookup c with
  | some l => l.contains f
  | none => false
def vFldS (C : List (Str × List Str)) (own : List Nat) (i : Nat) (f : Str) (pv : VE U) : VS := fun Γ S => pv (eraseU own Γ) (fun a g => S.ex a g Γ) fun v => match Γ[i]? with
  | some (some (.ins c fs us)) => (hasF C c f = true ∧ fs.length < 1000) ∧ S.nx (Γ.set i (some (.ins c (putK f fs) (putV f v fs us))))
  | _ => False
def Kp : HA.Env → SRes → Prop
  | env, .nx e _ => e[0]? = env[0]?
  | env, .bk e _ => e[0]? = env[0]?
  | env, .ct e _ => e[0]? = env[0]?
  | _, _ => True
def K0 (m : SM) : Prop := ∀ env ah, Kp env (m env ah)
def T0 (t : TM) : Prop := ∀ d env ah e, t d env ah = some e → e[0]? = env[0]?
def T0s (t : List D → HA.Env → AH → Option HA.Env) : Prop := ∀ d env ah e, t d env ah = some e → e[0]? = env[0]?
structure LMk (K : Dks) (c : Nat) (C : Str) (mi : List D → AH → Res D) (pi : List U → ExK → (U → Prop) → Prop) : Prop where
  to : ∀ {ok : Nat → Prop} {ah : AH} {N : Nat} {X : ExK} {k : U → Prop} {us : List U} {ds : List D}, OkF ok ah → Rs ok ah us ds → K.at' N ah → N + cb c ≤ LIM → pi us X k → PR K ok ah (N + cb c) RU X k (mkEnd ah.length (mi (.ref ah.length :: ds) (ah ++ [.ins C []])))
def vMkI (C : Str) (n ar : Nat) (pb : VS) : List U → ExK → (U → Prop) → Prop := fun us X k => us.length + 1 = ar ∧ pb (some (.ins C [] []) :: (us.map some ++ List.replicate (n - ar) none)) ⟨fun Γ => match Γ[0]? with
  | some (some u) => k u
  | _ => False, fun _ => False, fun _ => False, fun _ => False, fun a f _ => X a f⟩
end
end HV
namespace HV
open PySem PySem.Spec PyProof.Rows L2 HA
def tUnl (n : Nat) (r : List U → Option (List (Nat × U))) : VTM := fun u => match u with
  | .lst us => if us.length = n then r us else none
  | _ => none
def tStarL (n : Nat) (r : List U → Option (List (Nat × U))) : VTM := fun u => match u with
  | .lst us => if n ≤ us.length then r (us.take n ++ [.lst (us.drop n)]) else none
  | _ => none
end HV
namespace HV
open PySem PySem.Spec PyProof.Rows L2 HA
section
variable {K : Dks}
def charsU (x : Str) : List U := x.cps.toList.map fun c => .str ⟨#[c]⟩
def vStrOf : V1o (List U)
  | .str x, _, k => k (charsU x)
  | _, _, _ => False
end
end HV
namespace HV
open PySem PySem.Spec PyProof.Rows L2 HA
section
variable {K : Dks}
def vExtend : VMt
  | .lst xs, [.lst zs], k => xs.length + zs.length ≤ line ∧ k .non (.lst (xs ++ zs))
  | _, _, _ => False
theorem lm_extend : LMt mExtend vExtend := ⟨fun {ok ah n o u us ds k} hn e r q x => by
  unfold vExtend at x
  split at x
  · obtain ⟨xs, rfl, r⟩ := r.lst
    simp only [Rs, R] at q
    obtain ⟨d, es, rfl, ⟨m, zs, rfl, _, q, r'⟩, rfl⟩ := q
    unfold mExtend
    simp only [e, q]
    rw [if_pos (by rw [← r.len, ← r'.len]; exact x.1)]
    exact ⟨_, _, _, _, rfl, x.2, by simp only [R], r.app r'⟩
  · exact x.elim⟩
def vSplit : U → List U → ExK → (U → Prop) → Prop
  | .str a, [.str b], _, k => (b.length ≠ 0 ∧ a.length + 2 ≤ line) ∧ k (.lst ((Txt.split a b).map U.str))
  | _, _, _, _ => False
theorem Rs.of_strs {ok : Nat → Prop} {ah : AH} : ∀ (ns : List Str), Rs ok ah (ns.map U.str) (ns.map D.str)
  | [] => Rs.nil
  | n :: ns => Rs.cons (by simp only [R]) (Rs.of_strs ns)
theorem ln_split {c c' : Nat} {mo : EM D} {pm : VE U} {ml : EM (List D)} {pa : VE (List U)} (h : LE K RU c mo pm) (h' : LE K RUs c' ml pa) : LN (K := K) (sq c c') (eMs mo ml mSplit) (vMs pm pa vSplit) := ⟨fun {ok Γ env ah N X k} o e kk l x => by
  have s := cb_sq c c'
  have w := h.to o e kk (by omega) x
  unfold eMs
  cases z : mo env ah with
  | stuck => rw [z] at w; exact w.elim
  | exn a fs ah1 =>
    rw [z] at w
    obtain ⟨f, x1, x2, g, k1⟩ := w
    exact ⟨f, x1, x2, g, K.mono k1 (by omega)⟩
  | ok d ah1 =>
    rw [z] at w
    obtain ⟨u, ⟨⟨y, rfl⟩, x2⟩, q, g, k1⟩ := w
    have q1 : R ok ah1 (.str y) d := q
    simp only [R] at q1
    subst q1
    simp only [Res.bind]
    rw [if_pos (show isStrD (.str y) = true from rfl)]
    have w2 := h'.to (o.grow g) (e.grow o g) k1 (by omega) x2
    cases z2 : ml env ah1 with
    | stuck => rw [z2] at w2; exact w2.elim
    | exn a fs ah2 =>
      rw [z2] at w2
      obtain ⟨f, x1, x2, g2, k2⟩ := w2
      exact ⟨f, x1, x2, g.trans g2, K.mono k2 (by omega)⟩
    | ok ds ah2 =>
      rw [z2] at w2
      obtain ⟨us, x3, q2, g2, k2⟩ := w2
      have q2 : Rs ok ah2 us ds := q2
      simp only [Res.bind]
      unfold vSplit at x3
      split at x3
      · rename_i a b c d
        cases c
        simp only [Rs, R] at q2
        obtain ⟨_, _, rfl, rfl, rfl⟩ := q2
        rw [show mSplit (.str y) [.str b] ah2 = .ok (.ref ah2.length) (ah2 ++ [.lst ((Txt.split y b).map D.str)]) from if_pos x3.1]
        exact ⟨_, ah2.length, .lst ((Txt.split y b).map D.str), x3.2, rfl, Nat.le_trans g.len g2.len, by simp, Rs.of_strs _, (g.trans g2).trans Grow.app, K.app _ (K.mono k2 (by omega))⟩
      · exact x3.elim⟩
def vUpper : U → List U → ExK → (U → Prop) → Prop
  | .str a, [], _, k => a.length ≤ 5592405 ∧ k (.str (Txt.upper a))
  | _, _, _, _ => False
def uStr : U → Option Str
  | .str b => some b
  | _ => none
def uIts2 : U → Option (List U)
  | .tup us => some us
  | .lst us => some us
  | _ => none
def vJoin : U → List U → ExK → (U → Prop) → Prop
  | .str a, [u], _, k => match (uIts2 u).bind (optAll uStr) with
    | some ys => (ys.map (·.length)).sum + ys.length * a.length ≤ 16777216 ∧ k (.str (Txt.join a ys))
    | none => False
  | _, _, _, _ => False
def vMaxL (us : List U) (_ : ExK) (k : U → Prop) : Prop := match optAll uInt us with
  | some (n :: ns) => k (.int ((n :: ns).foldl max n))
  | _ => False
def vDGet (u kd z : U) (k : U → Prop) : Prop := match u with
  | .dK ks us => match uKey kd with
    | some kk => k ((uVal ks us kk).getD z)
    | none => False
  | _ => False
def vDGet1 (pm pk : VE U) : VE U := fun Γ X k => pm Γ X fun u => (∃ ks us, u = .dK ks us) ∧ pk Γ X fun kd => vDGet u kd .non k
def vDGet2 (pm pk px : VE U) : VE U := fun Γ X k => pm Γ X fun u => (∃ ks us, u = .dK ks us) ∧ pk Γ X fun kd => px Γ X fun z => vDGet u kd z k
theorem isDict_of {ok : Nat → Prop} {ah : AH} {d : D} {ks : List Key} {us : List U} (h : R ok ah (.dK ks us) d) : isDictD d ah = true := by
  simp only [R] at h
  obtain ⟨n, kvs, rfl, _, h, _, _⟩ := h
  unfold isDictD
  simp only [h]
theorem uVal_n {κ : Type} [DecidableEq κ] {ok : Nat → Prop} {ah : AH} {k : κ} : ∀ (ks : List κ) (us : List U) (kvs : List (κ × D)), kvs.map (·.1) = ks → Rs ok ah us (kvs.map (·.2)) → uVal ks us k = none → valD kvs k = none
  | _, _, [], h, r, e => rfl
  | ks, us, (a, d) :: kvs, h, r, e => by
    cases ks with
    | nil => simp at h
    | cons k1 ks =>
      simp only [List.map_cons, List.cons.injEq] at h
      cases us with
      | nil => simp only [List.map_cons, Rs] at r; cases r
      | cons u us =>
        simp only [List.map_cons, Rs] at r
        obtain ⟨x, xs, e1, r1, r2⟩ := r
        cases e1
        obtain ⟨rfl, h⟩ := h
        unfold uVal at e
        split at e
        · cases e
        · rename_i ne
          have ih := uVal_n ks us kvs h r2 e
          unfold valD at ih ⊢
          rw [List.find?_cons]
          rw [decide_eq_false ne]
          exact ih
theorem dget_v {ok : Nat → Prop} {ah : AH} {N : Nat} {X : ExK} {k : U → Prop} {u kd z : U} {d kd' z' : D} (q : R ok ah u d) (q1 : R ok ah kd kd') (q2 : R ok ah z z') (kk : K.at' N ah) (x : vDGet u kd z k) : PR K ok ah N RU X k (oDGet d kd' z' ah) := by
  unfold vDGet at x
  split at x
  · simp only [R] at q
    obtain ⟨n, kvs, rfl, _, h, zz, r⟩ := q
    split at x
    · rename_i key hk
      unfold oDGet
      simp only [uKey_d q1 hk, h]
      cases hu : uVal _ _ key with
      | some u =>
        rw [hu] at x
        obtain ⟨d, h1, h2⟩ := uVal_d _ _ _ zz r hu
        rw [h1]
        exact .okI x h2 kk
      | none =>
        rw [hu] at x
        rw [uVal_n _ _ _ zz r hu]
        exact .okI x q2 kk
    · exact x.elim
  · exact x.elim
theorem le_dget2 {c c' c2 : Nat} {mo mk mx : EM D} {pm pk px : VE U} (h : LE K RU c mo pm) (h' : LE K RU c' mk pk) (h2 : LE K RU c2 mx px) : LE K RU (sq c (sq c' c2)) (eDGet2 mo mk mx) (vDGet2 pm pk px) := ⟨fun {ok Γ env ah N X k} o e kk l x => by
  have s := cb_sq c (sq c' c2)
  have s2 := cb_sq c' c2
  refine PR.bind (h.to o e kk (by omega) x) (Nat.add_le_add_left (cb_left c _) N) fun a b ah' ka q g k2 => ?_
  obtain ⟨⟨ks, us, rfl⟩, ka⟩ := ka
  show PR K ok ah' (N + cb (sq c (sq c' c2))) RU X k (if isDictD b ah' = true then _ else _)
  rw [if_pos (isDict_of q)]
  refine PR.bind ((h'.to (o.grow g) (e.grow o g) k2 (by omega) ka).le (M := N + cb c + cb c') (by omega)) (by omega) fun kd kd' ah2 ka2 q2 g2 k3 => ?_
  refine PR.bind ((h2.to ((o.grow g).grow g2) ((e.grow o g).grow (o.grow g) g2) k3 (by omega) ka2).le (M := N + cb (sq c (sq c' c2))) (by omega)) (Nat.le_refl _) fun z z' ah3 ka3 q3 g3 k4 => ?_
  exact dget_v (R.grow q (o.grow g) (g2.trans g3)) (R.grow q2 ((o.grow g).grow g2) g3) q3 k4 ka3⟩
end
end HV
namespace HV
open PySem PySem.Spec PyProof.Rows L2 HA
section
variable {K : Dks}
def vPar3 (own : List Nat) (i j l : Nat) (p : VE (List U)) : VS := fun Γ S => p (eraseU own Γ) (fun a f => S.ex a f Γ) fun us => match us with
  | [x, y, z] => S.nx (((Γ.set i (some x)).set j (some y)).set l (some z))
  | _ => False
variable {F : Bool} {L : List Nat} {E : Option (List Nat)} {own own' own1 own2 : List Nat}
theorem ls_par3 {c i j l : Nat} {m : EM (List D)} {p : VE (List U)} (h : LE K RUs c m p) (hd : dis [i, j, l] own = true := by rfl) (hE : eok E own = true := by rfl) : LS K F L E c own own (sPar3 i j l m) (vPar3 own i j l p) := ⟨fun {ok b Γ env ah N S} O st kk ll x =>
  PSR.expr O st hE (fun _ h => h.1) (h.to (st.okav O) st.clean kk ll x) (Nat.le_refl _) fun us ds ah' ka q g st' kk' => by
    change Rs (av ok env own) ah' us ds at q
    split at ka
    · rename_i u v w
      simp only [Rs] at q
      obtain ⟨d, es, rfl, q1, e, es2, rfl, q2, f, es3, rfl, q3, rfl⟩ := q
      have r : Rb (av ok env own) ah' [(i, u), (j, v), (l, w)] [(i, d), (j, e), (l, f)] := ⟨rfl, Rs.cons q1 (Rs.cons q2 (Rs.cons q3 Rs.nil))⟩
      have hi : i ∉ own := dis_not hd (by simp)
      have hj : j ∉ own := dis_not hd (by simp)
      have hl : l ∉ own := dis_not hd (by simp)
      refine ⟨_, ka, st'.sets r (fun x hx => ?_), ⟨Nat.le_refl _, fun _ _ _ _ => rfl, fun _ _ _ => rfl, fun k n hk ek _ => ⟨k, hk, ?_⟩⟩, kk'⟩
      · simp only [List.mem_cons, List.not_mem_nil, or_false] at hx
        rcases hx with rfl | rfl | rfl
        · exact hi
        · exact hj
        · exact hl
      · rw [← ek]
        have h1 : i ≠ k := fun z => hi (z ▸ hk)
        have h2 : j ≠ k := fun z => hj (z ▸ hk)
        have h3 : l ≠ k := fun z => hl (z ▸ hk)
        rw [List.getElem?_set_ne h3, List.getElem?_set_ne h2, List.getElem?_set_ne h1]
    · exact ka.elim⟩
end
end HV
namespace HV
open PySem PySem.Spec PyProof.Rows L2 HA
section
variable {K : Dks}
def vKGet (t : CTab) : V2o U
  | .str z, d, _, k => match t.lookup z with
    | some e => k (toU e)
    | none => k d
  | _, _, _, _ => False
end
end HV
namespace HV
open PySem PySem.Spec PyProof.Rows L2 HA
section
variable {K : Dks}
def vJ : V2o U
  | .str a, .str y, _, k => (y.length ≤ line ∧ (a ++ y).length ≤ line) ∧ k (.str (a ++ y))
  | .str a, .int i, _, k => (i.natAbs.log2 < 1920 ∧ (a ++ (toString i : Str)).length ≤ line) ∧ k (.str (a ++ (toString i : Str)))
  | _, _, _, _ => False
end
end HV
namespace HV
open PySem PySem.Spec PyProof.Rows L2 HA
section
variable {K : Dks}
def vZipX (u v : U) (_ : ExK) (k : List U → Prop) : Prop := match u, uSeq v with
  | .str x, some ys => k (((charsU x).zip ys).map fun p => .tup [p.1, p.2])
  | _, _ => False
def rgL (i j c : Int) : List Int := (List.range (rgN i j c)).map fun (n : Nat) => i + n * c
def vIR3 (u v w : U) (_ : ExK) (k : List U → Prop) : Prop := match u, v, w with
  | .int i, .int j, .int c => rgOk i j c = true ∧ k ((rgL i j c).map U.int)
  | _, _, _ => False
theorem lo_irange3 : LO3 K RU RU RU RIt iRange3 vIR3 := ⟨fun {ok ah N X k a b a' b' a2 b2} o q q1 q2 kk x => by
  change R ok ah a b at q
  change R ok ah a' b' at q1
  change R ok ah a2 b2 at q2
  unfold vIR3 at x
  split at x
  · simp only [R] at q q1 q2
    subst q q1 q2
    rename_i i j c
    unfold iRange3
    simp only
    rw [if_pos x.1]
    refine .okI x.2 ⟨?_, fun p hp => by cases hp⟩ kk
    have := Rs.of_ints (ok := ok) (ah := ah) (rgL i j c)
    have e : (List.range (rgN i j c)).map (fun (n : Nat) => D.int (i + n * c)) = (rgL i j c).map D.int := by unfold rgL; rw [List.map_map]; rfl
    show Rs ok ah ((rgL i j c).map U.int) ((List.range (rgN i j c)).map (fun (n : Nat) => D.int (i + n * c)))
    rw [e]
    exact this
  · exact x.elim⟩
def toC (cs : List D) : List U := cs.map toU
def vMeth (m : Str) (v : VTab) (g : List U → List U → List U) (po : VE U) (pa pb : VE (List U)) : VE U := fun Γ X k => po Γ X fun u => match u with
  | .ins C fs us => (fs.zip us).lookup m = none ∧ match v.lookup C with
    | some p => pa Γ X fun as => pb Γ X fun ws => p (g (u :: as) ws) X k
    | none => False
  | _ => False
def GR (g : List D → List D → List D) (gu : List U → List U → List U) : Prop := ∀ {ok : Nat → Prop} {ah : AH} {us ws : List U} {ds fs : List D}, Rs ok ah us ds → Rs ok ah ws fs → Rs ok ah (gu us ws) (g ds fs)
end
end HV
namespace HV
open PySem PySem.Spec PyProof.Rows L2 HA
theorem nrfl {α : Sort u} {a b : α} (h : a = b) : a = b := h
def rng (a b : Int) : List Int := (List.range (b - a).toNat).map fun (n : Nat) => a + n
theorem rng_u (a b : Int) : ((List.range (b - a).toNat).map fun (n : Nat) => U.int (a + n)) = (rng a b).map U.int := by simp [rng, Function.comp_def]
@[simp] theorem rng_length (a b : Int) : (rng a b).length = (b - a).toNat := by simp [rng]
@[simp] theorem mem_rng {a b x : Int} : x ∈ rng a b ↔ a ≤ x ∧ x < b := by
  unfold rng
  simp only [List.mem_map, List.mem_range]
  exact ⟨fun ⟨n, h, e⟩ => by omega, fun h => ⟨(x - a).toNat, by omega, by omega⟩⟩
theorem rng_get {a b x : Int} {i : Nat} (h : (rng a b)[i]? = some x) : x = a + i ∧ x < b := by
  unfold rng at h
  rw [List.getElem?_map] at h
  cases g : (List.range (b - a).toNat)[i]? with
  | none => rw [g] at h; cases h
  | some n =>
    rw [g] at h
    have hl := (List.getElem?_eq_some_iff.mp g).1
    rw [List.length_range] at hl
    rw [List.getElem?_range hl] at g
    cases g
    cases h
    exact ⟨rfl, by show a + (i : Int) < b; omega⟩
abbrev Dm {α : Sort u} (_ : α) : Type := Unit
def nxt (f : UEnv → Prop) (Γ : UEnv) (_ : Dm f) : Prop := f Γ
@[simp] theorem nxt_def (f : UEnv → Prop) (Γ : UEnv) (d : Dm f) : nxt f Γ d = f Γ := nrfl rfl
def oK {α : Type} (o : Option α) (k : α → Prop) (_ : Dm k) : Prop := match o with
  | some a => k a
  | none => False
def oV (o : Option (Option U)) (k : U → Prop) (_ : Dm k) : Prop := match o with
  | some (some u) => k u
  | _ => False
def oL (o : Option (Option U)) (k : List U → Prop) (_ : Dm k) : Prop := match o with
  | some (some (.lst xs)) => k xs
  | _ => False
def oDk (o : Option (Option U)) (k : List Key → List U → Prop) (_ : Dm k) : Prop := match o with
  | some (some (.dK ks us)) => k ks us
  | _ => False
def oI (u : U) (k : Int → Prop) (_ : Dm k) : Prop := match u with
  | .int q => k q
  | _ => False
def o2 (us : List U) (k : U → U → Prop) (_ : Dm k) : Prop := match us with
  | [x, y] => k x y
  | _ => False
@[simp] theorem o2_def (x y : U) (k : U → U → Prop) (d : Dm k) : o2 [x, y] k d = k x y := nrfl rfl
@[simp] theorem oK_some {α : Type} (a : α) (k : α → Prop) (d : Dm k) : oK (some a) k d = k a := nrfl rfl
@[simp] theorem oK_none {α : Type} (k : α → Prop) (d : Dm k) : oK none k d = False := nrfl rfl
@[simp] theorem oV_some (u : U) (k : U → Prop) (d : Dm k) : oV (some (some u)) k d = k u := nrfl rfl
@[simp] theorem oL_some (xs : List U) (k : List U → Prop) (d : Dm k) : oL (some (some (.lst xs))) k d = k xs := nrfl rfl
@[simp] theorem oDk_some (ks : List Key) (us : List U) (k : List Key → List U → Prop) (d : Dm k) : oDk (some (some (.dK ks us))) k d = k ks us := nrfl rfl
@[simp] theorem oI_int (i : Int) (k : Int → Prop) (d : Dm k) : oI (.int i) k d = k i := nrfl rfl
def cal (p : List U → ExK → (U → Prop) → Prop) (us : List U) (X : ExK) (k : U → Prop) (_ : Dm (X, k)) : Prop := p us X k
def forL (vt : VTM) (body : VS) (us : List U) (Γ : UEnv) (S : SK) (_ : Dm (body, S)) : Prop := vForL vt body us Γ S
def lcL (vt : VTM) (pt : VE Bool) (pe : VE U) (Γ : UEnv) (us : List U) (k : List U → Prop) (_ : Dm (pt, pe, k)) : Prop := vLcL vt pt pe Γ us k
def whL (pc : VE Bool) (body : VS) (n : Nat) (Γ : UEnv) (S : SK) (_ : Dm (pc, body, S)) : Prop := vWh pc body n Γ S
def aD (b : Int) (k : U → Prop) (_ : Dm k) : Prop := ∀ v : Nat, (v : Int) < b → k (.int v)
section
variable {α β γ α' γ' : Type} (Γ : UEnv) (X : ExK)
@[simp ↓] theorem vVar_def (i : Nat) (k : U → Prop) : vVar i Γ X k = oV Γ[i]? k () := nrfl rfl
@[simp ↓] theorem vC_non (k : U → Prop) : vC .non Γ X k = k .non := nrfl rfl
@[simp ↓] theorem vC_int (i : Int) (k : U → Prop) : vC (.int i) Γ X k = k (.int i) := nrfl rfl
@[simp ↓] theorem vC_bl (i : Bool) (k : U → Prop) : vC (.bl i) Γ X k = k (.bl i) := nrfl rfl
@[simp ↓] theorem vC_str (i : Str) (k : U → Prop) : vC (.str i) Γ X k = k (.str i) := nrfl rfl
@[simp ↓] theorem vC_cst (i : V) (k : U → Prop) : vC (.cst i) Γ X k = k (.cst i) := nrfl rfl
@[simp ↓] theorem vC_glo (i : Str) (k : U → Prop) : vC (.glo i) Γ X k = k (.glo i) := nrfl rfl
theorem vC_def (d : D) (k : U → Prop) : vC d Γ X k = k (toU d) := rfl
@[simp] theorem toU_non : toU .non = .non := nrfl rfl
@[simp] theorem toU_bl (b : Bool) : toU (.bl b) = .bl b := nrfl rfl
@[simp] theorem toU_int (b : Int) : toU (.int b) = .int b := nrfl rfl
@[simp] theorem toU_str (b : Str) : toU (.str b) = .str b := nrfl rfl
@[simp] theorem toU_cst (b : V) : toU (.cst b) = .cst b := nrfl rfl
@[simp] theorem toU_glo (b : Str) : toU (.glo b) = .glo b := nrfl rfl
@[simp] theorem toU_ref (b : Nat) : toU (.ref b) = .ref b := nrfl rfl
@[simp] theorem toU_tup (b : List D) : toU (.tup b) = .tup (toUs b) := nrfl rfl
@[simp] theorem toUs_nil : toUs [] = [] := nrfl rfl
@[simp] theorem toUs_cons (d : D) (ds : List D) : toUs (d :: ds) = toU d :: toUs ds := nrfl rfl
@[simp ↓] theorem vCal_def (pa : VE (List U)) (f : List U → ExK → (U → Prop) → Prop) (k : U → Prop) : vCal pa f Γ X k = pa Γ X fun a => cal f a X k () := nrfl rfl
@[simp ↓] theorem v1_def (pa : VE α) (f : α → ExK → (γ → Prop) → Prop) (k : γ → Prop) : v1 pa f Γ X k = pa Γ X fun a => f a X k := nrfl rfl
@[simp ↓] theorem v2_def (pa : VE α) (pb : VE α') (f : α → α' → ExK → (γ → Prop) → Prop) (k : γ → Prop) : v2 pa pb f Γ X k = pa Γ X fun a => pb Γ X fun b => f a b X k := nrfl rfl
@[simp ↓] theorem v3_def (pa : VE α) (pb : VE α') (pc : VE γ') (f : α → α' → γ' → ExK → (γ → Prop) → Prop) (k : γ → Prop) : v3 pa pb pc f Γ X k = pa Γ X fun a => pb Γ X fun b => pc Γ X fun c => f a b c X k := nrfl rfl
@[simp ↓] theorem vaNil_def (k : List U → Prop) : vaNil Γ X k = k [] := nrfl rfl
@[simp ↓] theorem vaCons_def (p : VE U) (r : VE (List U)) (k : List U → Prop) : vaCons p r Γ X k = p Γ X fun u => r Γ X fun us => k (u :: us) := nrfl rfl
@[simp ↓] theorem vTup_def (p : VE (List U)) (k : U → Prop) : vTup p Γ X k = p Γ X fun us => us.length ≤ line ∧ k (.tup us) := nrfl rfl
@[simp ↓] theorem vLst_def (p : VE (List U)) (k : List U → Prop) : vLst p Γ X k = p Γ X fun us => us.length ≤ line ∧ k us := nrfl rfl
@[simp ↓] theorem vNew_def (p : VE (List U)) (k : U → Prop) : vNew p Γ X k = p Γ X fun us => k (.lst us) := nrfl rfl
@[simp ↓] theorem vB_def (p : VE Bool) (k : U → Prop) : vB p Γ X k = p Γ X fun b => k (.bl b) := nrfl rfl
@[simp ↓] theorem vAnd_def (a b : VE Bool) (k : Bool → Prop) : vAnd a b Γ X k = a Γ X fun t => if t = true then b Γ X k else k false := nrfl rfl
@[simp ↓] theorem vOr_def (a b : VE Bool) (k : Bool → Prop) : vOr a b Γ X k = a Γ X fun t => if t = true then k true else b Γ X k := nrfl rfl
@[simp ↓] theorem vNot_def (a : VE Bool) (k : Bool → Prop) : vNot a Γ X k = a Γ X fun t => k (!t) := nrfl rfl
@[simp ↓] theorem vYes_def (k : Bool → Prop) : vYes Γ X k = k true := nrfl rfl
@[simp ↓] theorem vEAnd_def (a b : VE U) (k : U → Prop) : vEAnd a b Γ X k = a Γ X fun u => vTruth u X fun t => if t = true then b Γ X k else k u := nrfl rfl
@[simp ↓] theorem vEOr_def (a b : VE U) (k : U → Prop) : vEOr a b Γ X k = a Γ X fun u => vTruth u X fun t => if t = true then k u else b Γ X k := nrfl rfl
@[simp ↓] theorem vENot_def (a : VE U) (k : U → Prop) : vENot a Γ X k = a Γ X fun u => vTruth u X fun t => k (.bl (!t)) := nrfl rfl
@[simp ↓] theorem vIf_def (c : VE Bool) (a b : VE α) (k : α → Prop) : vIf c a b Γ X k = c Γ X fun t => if t = true then a Γ X k else b Γ X k := nrfl rfl
@[simp ↓] theorem vChain_def (a b c : VE U) (f g : V2o Bool) (k : Bool → Prop) : vChain a b c f g Γ X k = a Γ X fun x => b Γ X fun y => f x y X fun t => if t = true then c Γ X fun z => g y z X k else k false := nrfl rfl
@[simp ↓] theorem vPart_none (k : Option Int → Prop) : vPart none Γ X k = k none := nrfl rfl
@[simp ↓] theorem vPart_some (p : VE U) (k : Option Int → Prop) : vPart (some p) Γ X k = p Γ X fun u => oI u (fun i => k (some i)) () := nrfl rfl
@[simp ↓] theorem vLc_def (pi : VE (List U)) (vt : VTM) (pt : VE Bool) (pe : VE U) (vs : List Nat) (k : List U → Prop) : vLc pi vt pt pe vs Γ X k = pi Γ X fun us => us.length ≤ line ∧ lcL vt pt pe (wipeU Γ vs) us k () := nrfl rfl
@[simp] theorem wipeU_nil : wipeU Γ [] = Γ := nrfl rfl
@[simp] theorem wipeU_cons (v : Nat) (vs : List Nat) : wipeU Γ (v :: vs) = (wipeU Γ vs).set v none := nrfl rfl
@[simp ↓] theorem vDnew_def (k : U → Prop) : vDnew Γ X k = k (.dK [] []) := nrfl rfl
variable (nx : UEnv → Prop) (rt : U → Prop) (bk ct : UEnv → Prop) (ex : Str → EF → UEnv → Prop)
@[simp ↓] theorem vSkip_def : vSkip Γ ⟨nx, rt, bk, ct, ex⟩ = nx Γ := nrfl rfl
@[simp ↓] theorem vSeq_def (a b : VS) : vSeq a b Γ ⟨nx, rt, bk, ct, ex⟩ = a Γ ⟨fun Γ' => b Γ' ⟨nx, rt, bk, ct, ex⟩, rt, bk, ct, ex⟩ := nrfl rfl
@[simp ↓] theorem vRet_def (p : VE U) : vRet p Γ ⟨nx, rt, bk, ct, ex⟩ = p Γ (fun a f => ex a f Γ) rt := nrfl rfl
@[simp ↓] theorem vRetN_def : vRetN Γ ⟨nx, rt, bk, ct, ex⟩ = rt .non := nrfl rfl
@[simp ↓] theorem vExpr_def (p : VE U) : vExpr p Γ ⟨nx, rt, bk, ct, ex⟩ = p Γ (fun a f => ex a f Γ) fun _ => nx Γ := nrfl rfl
@[simp ↓] theorem vAsg_def (own : List Nat) (p : VE U) (t : VTM) : vAsg own p t Γ ⟨nx, rt, bk, ct, ex⟩ = p (eraseU own Γ) (fun a f => ex a f Γ) fun u => oK (t u) (fun bs => nxt nx (setU Γ bs) ()) () := by
  unfold vAsg
  congr 1; funext u; cases t u <;> rfl
@[simp ↓] theorem vAsgF_def (p : VE U) (t : VTM) : vAsgF p t Γ ⟨nx, rt, bk, ct, ex⟩ = p Γ (fun a f => ex a f Γ) fun u => u.flat = true ∧ oK (t u) (fun bs => nxt nx (setU Γ bs) ()) () := by
  unfold vAsgF
  congr 1; funext u; congr 1; cases t u <;> rfl
@[simp ↓] theorem vAsgN_def (own : List Nat) (p : VE U) (i : Nat) : vAsgN own p i Γ ⟨nx, rt, bk, ct, ex⟩ = (i < Γ.length ∧ p (eraseU own Γ) (fun a f => ex a f Γ) fun u => nxt nx (Γ.set i (some u)) ()) := nrfl rfl
@[simp ↓] theorem vIfS_def (c : VE Bool) (a b : VS) : vIfS c a b Γ ⟨nx, rt, bk, ct, ex⟩ = c Γ (fun a f => ex a f Γ) fun t => if t = true then a Γ ⟨nx, rt, bk, ct, ex⟩ else b Γ ⟨nx, rt, bk, ct, ex⟩ := nrfl rfl
@[simp ↓] theorem vBk_def : vBk Γ ⟨nx, rt, bk, ct, ex⟩ = bk Γ := nrfl rfl
@[simp ↓] theorem vCt_def : vCt Γ ⟨nx, rt, bk, ct, ex⟩ = ct Γ := nrfl rfl
@[simp ↓] theorem vFor_def (own : List Nat) (pi : VE (List U)) (vt : VTM) (body : VS) : vFor own pi vt body Γ ⟨nx, rt, bk, ct, ex⟩ = pi (eraseU own Γ) (fun a f => ex a f Γ) fun us => forL vt body us Γ ⟨nx, rt, bk, ct, ex⟩ () := nrfl rfl
@[simp ↓] theorem vForB_def (own : List Nat) (pi : VE (List U)) (vt : VTM) (body : VS) : vForB own pi vt body Γ ⟨nx, rt, bk, ct, ex⟩ = pi (eraseU own Γ) (fun a f => ex a f Γ) fun us => us.length ≤ line ∧ forL vt body us Γ ⟨nx, rt, bk, ct, ex⟩ () := nrfl rfl
@[simp ↓] theorem vPar2_def (own : List Nat) (i j : Nat) (p : VE (List U)) : vPar2 own i j p Γ ⟨nx, rt, bk, ct, ex⟩ = p (eraseU own Γ) (fun a f => ex a f Γ) fun us => o2 us (fun x y => nxt nx ((Γ.set i (some x)).set j (some y)) ()) () := nrfl rfl
@[simp ↓] theorem vMtS_def (own : List Nat) (i : Nat) (pa : VE (List U)) (vf : VMt) : vMtS own i pa vf Γ ⟨nx, rt, bk, ct, ex⟩ = vMt own i pa vf Γ (fun a f => ex a f Γ) fun _ Γ' => nx Γ' := nrfl rfl
@[simp ↓] theorem vMtSF_def (i : Nat) (pa : VE (List U)) (vf : VMt) : vMtSF i pa vf Γ ⟨nx, rt, bk, ct, ex⟩ = vMtF i pa vf Γ (fun a f => ex a f Γ) fun _ Γ' => nx Γ' := nrfl rfl
@[simp ↓] theorem vMtA_def (own : List Nat) (i : Nat) (pa : VE (List U)) (vf : VMt) (j : Nat) : vMtA own i pa vf j Γ ⟨nx, rt, bk, ct, ex⟩ = vMt own i pa vf Γ (fun a f => ex a f Γ) fun r Γ' => nxt nx (Γ'.set j (some r)) () := nrfl rfl
@[simp ↓] theorem vMtAF_def (i : Nat) (pa : VE (List U)) (vf : VMt) (j : Nat) : vMtAF i pa vf j Γ ⟨nx, rt, bk, ct, ex⟩ = vMtF i pa vf Γ (fun a f => ex a f Γ) fun r Γ' => nxt nx (Γ'.set j (some r)) () := nrfl rfl
@[simp ↓] theorem vMt_def (own : List Nat) (i : Nat) (pa : VE (List U)) (vf : VMt) (k : U → UEnv → Prop) : vMt own i pa vf Γ X k = oL Γ[i]? (fun xs => pa (eraseU own Γ) X fun us => vf (.lst xs) us fun r u' => nxt (k r) (Γ.set i (some u')) ()) () := nrfl rfl
@[simp ↓] theorem vMtF_def (i : Nat) (pa : VE (List U)) (vf : VMt) (k : U → UEnv → Prop) : vMtF i pa vf Γ X k = oL Γ[i]? (fun xs => pa Γ X fun us => U.flats us = true ∧ vf (.lst xs) us fun r u' => nxt (k r) (Γ.set i (some u')) ()) () := nrfl rfl
theorem setL_oL (o : Option (Option U)) (kd : U) (f : List U → Nat → Prop) : (match o, kd with
  | some (some (.lst xs)), .int q => match ixN xs.length q with
    | some j => f xs j
    | none => False
  | _, _ => False) = oL o (fun xs => oI kd (fun q => oK (ixN xs.length q) (fun j => f xs j) ()) ()) () := by
  unfold oL oI oK
  match o, kd with
  | some (some (.lst xs)), .int q => simp only; cases ixN xs.length q <;> rfl
  | none, kd => rfl
  | some none, kd => rfl
  | some (some (.lst xs)), .non => rfl
  | some (some (.lst xs)), .bl _ => rfl
  | some (some (.lst xs)), .str _ => rfl
  | some (some (.lst xs)), .tup _ => rfl
  | some (some (.lst xs)), .lst _ => rfl
  | some (some (.lst xs)), .dK _ _ => rfl
  | some (some (.lst xs)), .dT _ _ => rfl
  | some (some (.lst xs)), .ins _ _ _ => rfl
  | some (some (.lst xs)), .ref _ => rfl
  | some (some (.lst xs)), .cst _ => rfl
  | some (some (.lst xs)), .glo _ => rfl
  | some (some (.lst xs)), .xv _ _ _ _ => rfl
  | some (some .non), _ => rfl
  | some (some (.bl _)), _ => rfl
  | some (some (.int _)), _ => rfl
  | some (some (.str _)), _ => rfl
  | some (some (.tup _)), _ => rfl
  | some (some (.dK _ _)), _ => rfl
  | some (some (.dT _ _)), _ => rfl
  | some (some (.ins _ _ _)), _ => rfl
  | some (some (.ref _)), _ => rfl
  | some (some (.cst _)), _ => rfl
  | some (some (.glo _)), _ => rfl
  | some (some (.xv _ _ _ _)), _ => rfl
@[simp ↓] theorem vSetL_def (own : List Nat) (i : Nat) (pi pv : VE U) : vSetL own i pi pv Γ ⟨nx, rt, bk, ct, ex⟩ = pv (eraseU own Γ) (fun a f => ex a f Γ) fun v => pi Γ (fun a f => ex a f Γ) fun kd => oL Γ[i]? (fun xs => oI kd (fun q => oK (ixN xs.length q) (fun j => nxt nx (Γ.set i (some (.lst (xs.set j v)))) ()) ()) ()) () := by
  unfold vSetL
  congr 1; funext v; congr 1; funext kd
  exact setL_oL Γ[i]? kd fun xs j => nx (Γ.set i (some (.lst (xs.set j v))))
@[simp ↓] theorem vSetLF_def (i : Nat) (pi pv : VE U) : vSetLF i pi pv Γ ⟨nx, rt, bk, ct, ex⟩ = pv Γ (fun a f => ex a f Γ) fun v => v.flat = true ∧ pi Γ (fun a f => ex a f Γ) fun kd => oL Γ[i]? (fun xs => oI kd (fun q => oK (ixN xs.length q) (fun j => nxt nx (Γ.set i (some (.lst (xs.set j v)))) ()) ()) ()) () := by
  unfold vSetLF
  congr 1; funext v; congr 1; congr 1; funext kd
  exact setL_oL Γ[i]? kd fun xs j => nx (Γ.set i (some (.lst (xs.set j v))))
@[simp ↓] theorem vPut_def (own : List Nat) (i : Nat) (pi pv : VE U) : vPut own i pi pv Γ ⟨nx, rt, bk, ct, ex⟩ = pv (eraseU own Γ) (fun a f => ex a f Γ) fun v => pi Γ (fun a f => ex a f Γ) fun kd => oDk Γ[i]? (fun ks us => oK (uKey kd) (fun kk => ks.length < line ∧ nxt nx (Γ.set i (some (uPut ks us kk v))) ()) ()) () := by
  unfold vPut oDk oK
  congr 1; funext v; congr 1; funext kd
  generalize Γ[i]? = o
  match o with
  | none => rfl
  | some none => rfl
  | some (some (.dK ks us)) => cases uKey kd <;> rfl
  | some (some .non) => rfl
  | some (some (.bl _)) => rfl
  | some (some (.int _)) => rfl
  | some (some (.str _)) => rfl
  | some (some (.tup _)) => rfl
  | some (some (.lst _)) => rfl
  | some (some (.dT _ _)) => rfl
  | some (some (.ins _ _ _)) => rfl
  | some (some (.ref _)) => rfl
  | some (some (.cst _)) => rfl
  | some (some (.glo _)) => rfl
  | some (some (.xv _ _ _ _)) => rfl
@[simp ↓] theorem vFn_def (n ar : Nat) (pb : VS) (us : List U) (k : U → Prop) : vFn n ar pb us X k = (us.length = ar ∧ nxt (fun Γ => pb Γ ⟨fun _ => k .non, k, fun _ => False, fun _ => False, fun a f _ => X a f⟩) (us.map some ++ List.replicate (n - us.length) none) ()) := nrfl rfl
@[simp ↓] theorem vFnN_def (n ar : Nat) (pb : VS) (us : List U) (k : U → Prop) : vFnN n ar pb us X k = (us.length = ar ∧ nxt (fun Γ => pb Γ ⟨fun _ => False, k, fun _ => False, fun _ => False, fun a f _ => X a f⟩) (us.map some ++ List.replicate (n - us.length) none) ()) := nrfl rfl
@[simp] theorem eraseU_nil : eraseU [] Γ = Γ := nrfl rfl
@[simp] theorem eraseU_cons (i : Nat) (r : List Nat) : eraseU (i :: r) Γ = eraseU r (Γ.set i none) := nrfl rfl
@[simp] theorem setU_nil : setU Γ [] = Γ := nrfl rfl
@[simp] theorem setU_cons (i : Nat) (u : U) (r : List (Nat × U)) : setU Γ ((i, u) :: r) = setU (Γ.set i (some u)) r := nrfl rfl
@[simp] theorem tSet_def (i : Nat) (u : U) : tSet i u = some [(i, u)] := nrfl rfl
@[simp] theorem tNil_def : tNil [] = some [] := nrfl rfl
@[simp] theorem tCons_def (t : VTM) (r : List U → Option (List (Nat × U))) (u : U) (us : List U) : tCons t r (u :: us) = (t u).bind fun a => (r us).map fun b => a ++ b := nrfl rfl
@[simp] theorem tTup_def (n : Nat) (r : List U → Option (List (Nat × U))) (us : List U) : tTup n r (.tup us) = if us.length = n then r us else none := nrfl rfl
@[simp] theorem tStar_def (n : Nat) (r : List U → Option (List (Nat × U))) (us : List U) : tStar n r (.tup us) = if n ≤ us.length then r (us.take n ++ [.lst (us.drop n)]) else none := nrfl rfl
variable (k : U → Prop) (kb : Bool → Prop) (kl : List U → Prop)
@[simp ↓] theorem vAdd_int (i j : Int) : vAdd (.int i) (.int j) X k = k (.int (i + j)) := nrfl rfl
@[simp ↓] theorem vAddA_int (i j : Int) : vAddA (.int i) (.int j) X k = k (.int (i + j)) := nrfl rfl
@[simp ↓] theorem vAdd_tup (i j : List U) : vAdd (.tup i) (.tup j) X k = (i.length + j.length ≤ line ∧ k (.tup (i ++ j))) := nrfl rfl
@[simp ↓] theorem vAddA_tup (i j : List U) : vAddA (.tup i) (.tup j) X k = (i.length + j.length ≤ line ∧ k (.tup (i ++ j))) := nrfl rfl
@[simp ↓] theorem vAdd_str (i j : Str) : vAdd (.str i) (.str j) X k = (i.length + j.length ≤ line ∧ k (.str (i ++ j))) := nrfl rfl
@[simp ↓] theorem vAddA_lst (i j : List U) : vAddA (.lst i) (.lst j) X k = (i.length + j.length ≤ line ∧ k (.lst (i ++ j))) := nrfl rfl
@[simp ↓] theorem vSub_int (i j : Int) : vSub (.int i) (.int j) X k = k (.int (i - j)) := nrfl rfl
@[simp ↓] theorem vNeg_int (i : Int) : vNeg (.int i) X k = k (.int (-i)) := nrfl rfl
@[simp ↓] theorem vMul_int (i j : Int) : vMul (.int i) (.int j) X k = (mulOk i j = true ∧ k (.int (i * j))) := nrfl rfl
@[simp ↓] theorem vMul_tup (i : List U) (j : Int) : vMul (.tup i) (.int j) X k = ((i ≠ [] ∧ 0 ≤ j ∧ j ≤ 1000 ∧ i.length ≤ 1000) ∧ k (.tup (List.replicate j.toNat i).flatten)) := nrfl rfl
@[simp ↓] theorem vMulI_int (i j : Int) : vMulI (.int i) (.int j) X k = (mulOk i j = true ∧ k (.int (i * j))) := nrfl rfl
@[simp ↓] theorem vFdiv_int (i j : Int) : vFdiv (.int i) (.int j) X k = ((0 < j ∧ j.natAbs.log2 < 9000) ∧ k (.int (i / j))) := nrfl rfl
@[simp ↓] theorem vMod_int (i j : Int) : vMod (.int i) (.int j) X k = (0 < j ∧ k (.int (i % j))) := nrfl rfl
@[simp ↓] theorem vPow_int (i j : Int) : vPow (.int i) (.int j) X k = ((0 ≤ j ∧ j ≤ 1000000 ∧ i.natAbs < 2 ^ 64) ∧ k (.int (i ^ j.toNat))) := nrfl rfl
@[simp ↓] theorem vEq_int (i j : Int) : vEq (.int i) (.int j) X kb = kb (decide (i = j)) := nrfl rfl
@[simp ↓] theorem vEq_str (i j : Str) : vEq (.str i) (.str j) X kb = kb (decide (i = j)) := nrfl rfl
@[simp ↓] theorem vEq_bl (i j : Bool) : vEq (.bl i) (.bl j) X kb = kb (decide (i = j)) := nrfl rfl
@[simp ↓] theorem vEq_nil (us : List U) : vEq (.tup us) (.tup []) X kb = kb us.isEmpty := by
  cases us <;> rfl
@[simp ↓] theorem vNe_def (a b : U) : vNe a b X kb = vEq a b X fun t => kb (!t) := nrfl rfl
@[simp ↓] theorem vLt_int (i j : Int) : vLt (.int i) (.int j) X kb = kb (decide (i < j)) := nrfl rfl
@[simp ↓] theorem vLe_int (i j : Int) : vLe (.int i) (.int j) X kb = kb (decide (i ≤ j)) := nrfl rfl
@[simp ↓] theorem vGt_int (i j : Int) : vGt (.int i) (.int j) X kb = kb (decide (j < i)) := nrfl rfl
@[simp ↓] theorem vGe_int (i j : Int) : vGe (.int i) (.int j) X kb = kb (decide (j ≤ i)) := nrfl rfl
@[simp ↓] theorem vTruth_bl (b : Bool) : vTruth (.bl b) X kb = kb b := nrfl rfl
@[simp ↓] theorem vTruth_non : vTruth .non X kb = kb false := nrfl rfl
@[simp ↓] theorem vTruth_int (i : Int) : vTruth (.int i) X kb = kb (i != 0) := nrfl rfl
@[simp ↓] theorem vTruth_tup (us : List U) : vTruth (.tup us) X kb = kb (!us.isEmpty) := nrfl rfl
@[simp ↓] theorem vTruth_lst (us : List U) : vTruth (.lst us) X kb = kb (!us.isEmpty) := nrfl rfl
@[simp ↓] theorem vTruth_str (z : Str) : vTruth (.str z) X kb = (z.length ≤ line ∧ kb ((z.length : Int) != 0)) := nrfl rfl
@[simp ↓] theorem vIs_non (u : U) : vIs u .non X kb = kb (uNon u) := by cases u <;> rfl
@[simp ↓] theorem vIs_bl (a b : Bool) : vIs (.bl a) (.bl b) X kb = kb (decide (a = b)) := nrfl rfl
@[simp ↓] theorem vIsNot_def (a b : U) : vIsNot a b X kb = vIs a b X fun t => kb (!t) := nrfl rfl
@[simp ↓] theorem vNotIn_def (a b : U) : vNotIn a b X kb = vIn a b X fun t => kb (!t) := nrfl rfl
@[simp ↓] theorem vIn_str (a b : Str) : vIn (.str a) (.str b) X kb = kb (strIn a b) := nrfl rfl
@[simp] theorem uNon_non : uNon .non = true := nrfl rfl
@[simp] theorem uNon_int (i : Int) : uNon (.int i) = false := nrfl rfl
@[simp] theorem uNon_bl (i : Bool) : uNon (.bl i) = false := nrfl rfl
@[simp] theorem uNon_str (i : Str) : uNon (.str i) = false := nrfl rfl
@[simp] theorem uNon_tup (i : List U) : uNon (.tup i) = false := nrfl rfl
@[simp] theorem uNon_lst (i : List U) : uNon (.lst i) = false := nrfl rfl
@[simp ↓] theorem vListOf_lst (us : List U) : vListOf (.lst us) X kl = kl us := nrfl rfl
@[simp ↓] theorem vSeqOf_lst (us : List U) : vSeqOf (.lst us) X kl = kl us := nrfl rfl
@[simp ↓] theorem vSeqOf_tup (us : List U) : vSeqOf (.tup us) X kl = kl us := nrfl rfl
@[simp ↓] theorem vLenA_def (u : U) : vLenA [u] X k = vLen u X k := nrfl rfl
@[simp ↓] theorem vLen_tup (us : List U) : vLen (.tup us) X k = k (.int us.length) := nrfl rfl
@[simp ↓] theorem vLen_lst (us : List U) : vLen (.lst us) X k = k (.int us.length) := nrfl rfl
@[simp ↓] theorem vLen_str (z : Str) : vLen (.str z) X k = (z.length ≤ line ∧ k (.int z.length)) := nrfl rfl
@[simp ↓] theorem vIsi_def (u : U) (T : String) : vIsi [u, .cst (.ty T)] X k = oK (uName u) (fun a => T ∈ tyTable ∧ k (.bl (tyIs a T))) () := by
  unfold vIsi; simp only; cases uName u <;> rfl
@[simp ↓] theorem vIsi_tup (u : U) (ts : List U) : vIsi [u, .tup ts] X k = oK (uName u) (fun a => oK (uTys ts) (fun Ts => (Ts.all fun T => decide (T ∈ tyTable)) = true ∧ k (.bl (Ts.any (tyIs a)))) ()) () := by
  unfold vIsi; simp only; cases uName u <;> cases uTys ts <;> rfl
@[simp] theorem uName_non : uName .non = some "NoneType" := nrfl rfl
@[simp] theorem uName_bl (b : Bool) : uName (.bl b) = some "bool" := nrfl rfl
@[simp] theorem uName_int (b : Int) : uName (.int b) = some "int" := nrfl rfl
@[simp] theorem uName_str (b : Str) : uName (.str b) = some "str" := nrfl rfl
@[simp] theorem uName_tup (b : List U) : uName (.tup b) = some "tuple" := nrfl rfl
@[simp] theorem uName_lst (b : List U) : uName (.lst b) = some "list" := nrfl rfl
@[simp] theorem uName_dK (a : List Key) (b : List U) : uName (.dK a b) = some "dict" := nrfl rfl
@[simp] theorem tyT_bool : "bool" ∈ tyTable := by decide
@[simp] theorem tyT_int : "int" ∈ tyTable := by decide
@[simp] theorem tyT_str : "str" ∈ tyTable := by decide
@[simp] theorem tyT_tup : "tuple" ∈ tyTable := by decide
@[simp] theorem tyT_lst : "list" ∈ tyTable := by decide
@[simp] theorem tyT_dict : "dict" ∈ tyTable := by decide
@[simp ↓] theorem vTupOf_def (us : List U) : vTupOf us X k = k (.tup us) := nrfl rfl
@[simp ↓] theorem vId_def (us : List U) : vId us X kl = kl us := nrfl rfl
@[simp ↓] theorem vRevL_def (us : List U) : vRevL us X kl = kl us.reverse := nrfl rfl
@[simp ↓] theorem vRevT_def (us : List U) : vRevT (.tup us) X k = k (.tup us.reverse) := nrfl rfl
@[simp ↓] theorem vIx_tup (us : List U) (i : Int) : vIx (.tup us) (.int i) X k = oK (ixD us i) k () := by
  unfold vIx; simp only; cases ixD us i <;> rfl
@[simp ↓] theorem vIx_lst (us : List U) (i : Int) : vIx (.lst us) (.int i) X k = oK (ixD us i) k () := by
  unfold vIx; simp only; cases ixD us i <;> rfl
@[simp ↓] theorem vLIx_def (us : List U) (i : Int) : vLIx us (.int i) X k = oK (ixD us i) k () := by
  unfold vLIx; simp only; cases ixD us i <;> rfl
@[simp ↓] theorem vCut_def (us : List U) (lo hi : Option Int) : vCut (.tup us) lo hi X k = k (.tup (HA.cut us lo hi)) := nrfl rfl
@[simp ↓] theorem vCut_str (z : Str) (lo hi : Option Int) : vCut (.str z) lo hi X k = (z.length ≤ line ∧ k (.str (cutS z lo hi))) := nrfl rfl
@[simp ↓] theorem vLCut_def (us : List U) (lo hi : Option Int) : vLCut (.lst us) lo hi X kl = kl (HA.cut us lo hi) := nrfl rfl
@[simp ↓] theorem vCat_def (xs ys : List U) : vCat xs ys X kl = (xs.length + ys.length ≤ line ∧ kl (xs ++ ys)) := nrfl rfl
@[simp ↓] theorem vRep_def (xs : List U) (n : Int) : vRep xs (.int n) X kl = ((-(2 ^ 63) ≤ n ∧ n < 2 ^ 63 ∧ xs.length * n.toNat ≤ line) ∧ kl (List.replicate n.toNat xs).flatten) := nrfl rfl
@[simp] theorem vNil_nil (neg : Bool) : vNil neg [] X kb = kb (!neg) := nrfl rfl
theorem vNil_cons (neg : Bool) (u : U) (us : List U) : vNil neg (u :: us) X kb = kb neg := rfl
@[simp ↓] theorem vRange1_def (j : Int) : vRange1 (.int j) X kl = vRange 0 j kl := nrfl rfl
@[simp ↓] theorem vRange2_def (i j : Int) : vRange2 (.int i) (.int j) X kl = vRange i j kl := nrfl rfl
@[simp ↓] theorem vIR1_def (j : Int) : vIR1 (.int j) X kl = vIR 0 j kl := nrfl rfl
@[simp ↓] theorem vIR2_def (i j : Int) : vIR2 (.int i) (.int j) X kl = vIR i j kl := nrfl rfl
@[simp ↓] theorem vRange_def (i j : Int) : vRange i j kl = ((-(2 ^ 62) ≤ i ∧ i < 2 ^ 62 ∧ -(2 ^ 62) ≤ j ∧ j < 2 ^ 62 ∧ (j - i).toNat ≤ 2 ^ 24) ∧ kl ((rng i j).map U.int)) := by rw [← rng_u]; rfl
@[simp ↓] theorem vIR_def (i j : Int) : vIR i j kl = ((-(2 ^ 62) ≤ i ∧ i < 2 ^ 62 ∧ -(2 ^ 62) ≤ j ∧ j < 2 ^ 62) ∧ kl ((rng i j).map U.int)) := by rw [← rng_u]; rfl
@[simp ↓] theorem vStr_int (i : Int) : vStr [.int i] X k = (i.natAbs.log2 < 1920 ∧ k (.str (toString i))) := nrfl rfl
@[simp ↓] theorem vStr_str (i : Str) : vStr [.str i] X k = k (.str i) := nrfl rfl
@[simp ↓] theorem vInt_int (i : Int) : vInt [.int i] X k = k (.int i) := nrfl rfl
@[simp ↓] theorem vInt_bl (b : Bool) : vInt [.bl b] X k = k (.int (if b then 1 else 0)) := nrfl rfl
@[simp ↓] theorem vMin_def (i j : Int) : vMin [.int i, .int j] X k = k (.int (if j < i then j else i)) := nrfl rfl
@[simp ↓] theorem vMax_def (i j : Int) : vMax [.int i, .int j] X k = k (.int (if j > i then j else i)) := nrfl rfl
theorem vRepr_def (u : U) : vRepr [u] X k = oK (uP 63 u) (fun p => ShowOk p ∧ k (.str p.shown)) () := by
  unfold vRepr; simp only; cases uP 63 u <;> rfl
@[simp] theorem uKey_int (i : Int) : uKey (.int i) = some (.inl i) := nrfl rfl
@[simp] theorem uKey_str (i : Str) : uKey (.str i) = some (.inr i) := nrfl rfl
@[simp] theorem line_def : line = 16777216 := nrfl rfl
@[simp ↓] theorem vDraw_def (b : Int) : vDraw [.ref 2, .int b] X k = ((0 < b ∧ b < 2 ^ 250) ∧ aD b k ()) := nrfl rfl
@[simp ↓] theorem vAppend_def (xs : List U) (y : U) (f : U → U → Prop) : vAppend (.lst xs) [y] f = (xs.length < line ∧ f .non (.lst (xs ++ [y]))) := nrfl rfl
@[simp ↓] theorem vIn_dK (ks : List Key) (us : List U) (i : Int) : vIn (.int i) (.dK ks us) X kb = kb (ks.any fun z => decide (z = .inl i)) := nrfl rfl
@[simp ↓] theorem vMaxD_def (us : List U) (d : Int) : vMaxD [.lst us] [.int d] X k = oK (optAll uInt us) (fun ns => k (.int (maxOf ns d))) () := by
  unfold vMaxD; simp only; cases optAll uInt us <;> rfl
@[simp] theorem ixD_eq {α : Type} (xs : List α) (i : Int) : ixD xs i = if 0 ≤ i then xs[i.toNat]? else if -(xs.length : Int) ≤ i then xs[(i + xs.length).toNat]? else none := by
  unfold ixD ixN
  by_cases h : 0 ≤ i
  · rw [if_pos h, if_pos h]
    by_cases h1 : i < xs.length
    · rw [if_pos h1]; rfl
    · rw [if_neg h1]
      rw [List.getElem?_eq_none (by omega)]
      rfl
  · rw [if_neg h, if_neg h]
    by_cases h1 : -(xs.length : Int) ≤ i
    · rw [if_pos h1, if_pos h1]; rfl
    · rw [if_neg h1, if_neg h1]; rfl
end
theorem ints_optAll (ns : List Int) : optAll uInt (ns.map U.int) = some ns := by
  induction ns with
  | nil => rfl
  | cons n ns ih => simp [optAll, uInt, ih]
theorem bools_optAll (ns : List Bool) : optAll uBool (ns.map U.bl) = some ns := by
  induction ns with
  | nil => rfl
  | cons n ns ih => simp [optAll, uBool, ih]
@[simp] theorem vSum_ints (ns : List Int) (X : ExK) (k : U → Prop) : vSum (ns.map U.int) X k = k (.int ns.sum) := by unfold vSum; rw [ints_optAll]
@[simp] theorem vAll_bools (ns : List Bool) (X : ExK) (k : U → Prop) : vAll (ns.map U.bl) X k = k (.bl (ns.all id)) := by unfold vAll; rw [bools_optAll]
@[simp] theorem vAny_bools (ns : List Bool) (X : ExK) (k : U → Prop) : vAny (ns.map U.bl) X k = k (.bl (ns.any id)) := by unfold vAny; rw [bools_optAll]
@[simp] theorem vSum_map {α : Type} (f : α → Int) (xs : List α) (X : ExK) (k : U → Prop) : vSum (xs.map fun x => U.int (f x)) X k = k (.int (xs.map f).sum) := by
  have := vSum_ints (xs.map f) X k
  simpa [Function.comp_def] using this
@[simp] theorem vAll_map {α : Type} (f : α → Bool) (xs : List α) (X : ExK) (k : U → Prop) : vAll (xs.map fun x => U.bl (f x)) X k = k (.bl (xs.all f)) := by
  have := vAll_bools (xs.map f) X k
  simpa [Function.comp_def, List.all_map] using this
@[simp] theorem vAny_map {α : Type} (f : α → Bool) (xs : List α) (X : ExK) (k : U → Prop) : vAny (xs.map fun x => U.bl (f x)) X k = k (.bl (xs.any f)) := by
  have := vAny_bools (xs.map f) X k
  simpa [Function.comp_def, List.any_map] using this
@[simp] theorem vAll_nil (X : ExK) (k : U → Prop) : vAll [] X k = k (.bl true) := nrfl rfl
inductive All2 {α β : Type} (Q : α → β → Prop) : List α → List β → Prop where
  | nil : All2 Q [] []
  | cons {a : α} {b : β} {as : List α} {bs : List β} : Q a b → All2 Q as bs → All2 Q (a :: as) (b :: bs)
theorem All2.len {α β : Type} {Q : α → β → Prop} {as : List α} {bs : List β} (h : All2 Q as bs) : as.length = bs.length := by
  induction h with
  | nil => rfl
  | cons _ _ ih => simp [ih]
theorem vLcL_map {α : Type} {vt : VTM} {pt : VE Bool} {pe : VE U} {Γ : UEnv} (g : α → U) (p : α → Bool) (f : α → U) : ∀ (xs : List α) (k : List U → Prop), (∀ x, x ∈ xs → ∃ bs, vt (g x) = some bs ∧ (∀ k, pt (setU Γ bs) XF k = k (p x)) ∧ (p x = true → ∀ k, pe (setU Γ bs) XF k = k (f x))) → vLcL vt pt pe Γ (xs.map g) k = k ((xs.filter p).map f)
  | [], k, _ => rfl
  | x :: xs, k, h => by
    obtain ⟨bs, h1, h2, h3⟩ := h x List.mem_cons_self
    have ih := fun k => vLcL_map g p f xs k fun y hy => h y (List.mem_cons_of_mem _ hy)
    rw [List.map_cons]
    unfold vLcL
    rw [h1]
    simp only
    rw [h2]
    cases hp : p x with
    | true => simp [h3 hp, ih, hp]
    | false => simp [ih, hp]
theorem vLcL_all {vt : VTM} {pe : VE U} {Γ : UEnv} (Q : U → U → Prop) : ∀ (us : List U) (k : List U → Prop), (∀ u, u ∈ us → ∃ bs, vt u = some bs ∧ ∀ k : U → Prop, (∀ y, Q u y → k y) → pe (setU Γ bs) XF k) → (∀ ys, All2 Q us ys → k ys) → vLcL vt vYes pe Γ us k
  | [], k, _, hk => hk [] .nil
  | u :: us, k, h, hk => by
    obtain ⟨bs, h1, h2⟩ := h u List.mem_cons_self
    unfold vLcL
    rw [h1]
    simp only [vYes_def, if_true]
    exact h2 _ fun y hy => vLcL_all Q us _ (fun v hv => h v (List.mem_cons_of_mem _ hv)) fun ys hys => hk _ (.cons hy hys)
theorem vForL_inv {vt : VTM} {body : VS} {S : SK} (I : Nat → UEnv → Prop) (B : UEnv → Prop) : ∀ (us : List U) (j : Nat) (Γ : UEnv), I j Γ →
    (∀ (i : Nat) (u : U) (Γ : UEnv) (nx bk : UEnv → Prop), us[i]? = some u → I (j + i) Γ → (∀ Γ', I (j + i + 1) Γ' → nx Γ') → (∀ Γ', B Γ' → bk Γ') → ∃ bs, vt u = some bs ∧ body (setU Γ bs) ⟨nx, S.rt, bk, nx, S.ex⟩) →
    (∀ Γ', I (j + us.length) Γ' → S.nx Γ') → (∀ Γ', B Γ' → S.nx Γ') → vForL vt body us Γ S
  | [], j, Γ, h0, _, hn, _ => hn Γ h0
  | u :: us, j, Γ, h0, hs, hn, hB => by
    obtain ⟨bs, h1, h2⟩ := hs 0 u Γ (fun Γ' => vForL vt body us Γ' S) S.nx rfl h0 (fun Γ' hi => by
      refine vForL_inv I B us (j + 1) Γ' hi (fun i v Γ nx bk hv hI hnx hbk => ?_) (fun Γ' hI => hn Γ' ?_) hB
      · exact hs (i + 1) v Γ nx bk hv (by rw [show j + (i + 1) = j + 1 + i by omega]; exact hI) (fun Γ' hI => hnx Γ' (by rw [show j + 1 + i + 1 = j + (i + 1) + 1 by omega]; exact hI)) hbk
      · rw [List.length_cons, show j + (us.length + 1) = j + 1 + us.length by omega]; exact hI) hB
    unfold vForL
    rw [h1]
    exact h2
theorem vForL_go {vt : VTM} {body : VS} {S : SK} {Γ : UEnv} {us : List U} (I : Nat → UEnv → Prop) (h0 : I 0 Γ) (hs : ∀ (i : Nat) (u : U) (Γ : UEnv) (nx bk : UEnv → Prop), us[i]? = some u → I i Γ → (∀ Γ', I (i + 1) Γ' → nx Γ') → ∃ bs, vt u = some bs ∧ body (setU Γ bs) ⟨nx, S.rt, bk, nx, S.ex⟩)
    (hn : ∀ Γ', I us.length Γ' → S.nx Γ') : vForL vt body us Γ S :=
  vForL_inv I (fun _ => False) us 0 Γ h0 (fun i u Γ nx bk h1 h2 h3 _ => hs i u Γ nx bk h1 (by simpa using h2) (by simpa using h3)) (by simpa using hn) (fun _ h => h.elim)
theorem vForL_goM {α : Type} {vt : VTM} {body : VS} {S : SK} {Γ : UEnv} (g : α → U) {xs : List α} (I : Nat → UEnv → Prop) (h0 : I 0 Γ) (hs : ∀ (i : Nat) (x : α) (Γ : UEnv) (nx bk : UEnv → Prop), xs[i]? = some x → I i Γ → (∀ Γ', I (i + 1) Γ' → nx Γ') → ∃ bs, vt (g x) = some bs ∧ body (setU Γ bs) ⟨nx, S.rt, bk, nx, S.ex⟩)
    (hn : ∀ Γ', I xs.length Γ' → S.nx Γ') : vForL vt body (xs.map g) Γ S :=
  vForL_go I h0 (fun i u Γ nx bk h1 h2 h3 => by
    rw [List.getElem?_map] at h1
    cases hx : xs[i]? with
    | none => rw [hx] at h1; cases h1
    | some x => rw [hx] at h1; cases h1; exact hs i x Γ nx bk hx h2 h3) (by simpa using hn)
theorem vLcL_map1 {α : Type} {vt : VTM} {pe : VE U} {Γ : UEnv} (g : α → U) (f : α → U) (xs : List α) (k : List U → Prop) (h : ∀ x, x ∈ xs → ∃ bs, vt (g x) = some bs ∧ (∀ k, pe (setU Γ bs) XF k = k (f x))) : vLcL vt vYes pe Γ (xs.map g) k = k (xs.map f) := by
  rw [vLcL_map g (fun _ => true) f xs k fun x hx => let ⟨bs, h1, h2⟩ := h x hx; ⟨bs, h1, fun _ => rfl, fun _ => h2⟩]
  rw [List.filter_eq_self.mpr fun _ _ => rfl]
theorem lcL_map1 {α : Type} {vt : VTM} {pe : VE U} {Γ : UEnv} (g : α → U) (f : α → U) (xs : List α) (k : List U → Prop) (d : Dm (vYes, pe, k)) (h : ∀ x, x ∈ xs → ∃ bs, vt (g x) = some bs ∧ (∀ k, pe (setU Γ bs) XF k = k (f x))) : lcL vt vYes pe Γ (xs.map g) k d = k (xs.map f) := vLcL_map1 g f xs k h
theorem lcL_all {vt : VTM} {pe : VE U} {Γ : UEnv} {us : List U} {k : List U → Prop} {d : Dm (vYes, pe, k)} (Q : U → U → Prop) (h : ∀ u, u ∈ us → ∃ bs, vt u = some bs ∧ ∀ k : U → Prop, (∀ y, Q u y → k y) → pe (setU Γ bs) XF k) (hk : ∀ ys, All2 Q us ys → k ys) : lcL vt vYes pe Γ us k d := vLcL_all Q us k h hk
theorem forL_go {vt : VTM} {body : VS} {nx0 : UEnv → Prop} {rt : U → Prop} {bk0 ct0 : UEnv → Prop} {ex : Str → EF → UEnv → Prop} {Γ : UEnv} {us : List U} {d : Dm (body, (⟨nx0, rt, bk0, ct0, ex⟩ : SK))} (I : Nat → UEnv → Prop) (h0 : I 0 Γ) (hs : ∀ (i : Nat) (u : U) (Γ : UEnv) (nx bk : UEnv → Prop), us[i]? = some u → I i Γ → (∀ Γ', I (i + 1) Γ' → nx Γ') → ∃ bs, vt u = some bs ∧ body (setU Γ bs) ⟨nx, rt, bk, nx, ex⟩)
    (hn : ∀ Γ', I us.length Γ' → nx0 Γ') : forL vt body us Γ ⟨nx0, rt, bk0, ct0, ex⟩ d := vForL_go I h0 hs hn
theorem forL_goM {α : Type} {vt : VTM} {body : VS} {nx0 : UEnv → Prop} {rt : U → Prop} {bk0 ct0 : UEnv → Prop} {ex : Str → EF → UEnv → Prop} {Γ : UEnv} (g : α → U) {xs : List α} {d : Dm (body, (⟨nx0, rt, bk0, ct0, ex⟩ : SK))} (I : Nat → UEnv → Prop) (h0 : I 0 Γ) (hs : ∀ (i : Nat) (x : α) (Γ : UEnv) (nx bk : UEnv → Prop), xs[i]? = some x → I i Γ → (∀ Γ', I (i + 1) Γ' → nx Γ') → ∃ bs, vt (g x) = some bs ∧ body (setU Γ bs) ⟨nx, rt, bk, nx, ex⟩)
    (hn : ∀ Γ', I xs.length Γ' → nx0 Γ') : forL vt body (xs.map g) Γ ⟨nx0, rt, bk0, ct0, ex⟩ d := vForL_goM g I h0 hs hn
end HV
namespace HV
open PySem PySem.Spec PyProof.Rows L2 HA
set_option exponentiation.threshold 300
def BIG : Nat := 2 ^ 280
def Sz (n w : Nat) (u : U) : Prop := ∃ p, uP n u = some p ∧ tame BIG p = true ∧ p.weight ≤ w
def Szs (n w : Nat) (us : List U) : Prop := ∃ ps, optAll (uP n) us = some ps ∧ tames BIG ps = true ∧ PyData.weightAll ps ≤ w
theorem uP_succ : ∀ (f : Nat) (u : U) (p : PyData), uP f u = some p → uP (f + 1) u = some p
  | 0, _, _, h => by simp [uP] at h
  | f + 1, u, p, h => by
    have ih := uP_succ f
    unfold uP at h ⊢
    split at h
    · exact h
    · exact h
    · exact h
    · exact h
    · rw [Option.map_eq_some_iff] at h ⊢
      obtain ⟨ps, h1, h2⟩ := h
      exact ⟨ps, optAll_mono ih h1, h2⟩
    · rw [Option.map_eq_some_iff] at h ⊢
      obtain ⟨ps, h1, h2⟩ := h
      exact ⟨ps, optAll_mono ih h1, h2⟩
    · rw [Option.map_eq_some_iff] at h ⊢
      obtain ⟨ps, h1, h2⟩ := h
      exact ⟨ps, optAll_mono ih h1, h2⟩
    · cases h
theorem uP_le {f g : Nat} (hl : f ≤ g) (u : U) (p : PyData) (h : uP f u = some p) : uP g u = some p := by
  induction hl with
  | refl => exact h
  | step _ ih => exact uP_succ _ u p ih
theorem Sz.mono {n n' w w' : Nat} {u : U} (h : Sz n w u) (hn : n ≤ n') (hw : w ≤ w') : Sz n' w' u := let ⟨p, h1, h2, h3⟩ := h; ⟨p, uP_le hn u p h1, h2, Nat.le_trans h3 hw⟩
theorem Szs.mono {n n' w w' : Nat} {us : List U} (h : Szs n w us) (hn : n ≤ n') (hw : w ≤ w') : Szs n' w' us := let ⟨p, h1, h2, h3⟩ := h; ⟨p, optAll_mono (uP_le hn) h1, h2, Nat.le_trans h3 hw⟩
theorem Sz.non {n : Nat} : Sz (n + 1) 0 .non := ⟨.none, rfl, rfl, Nat.le_refl _⟩
theorem Sz.bl {n : Nat} {b : Bool} : Sz (n + 1) 0 (.bl b) := ⟨.bool b, rfl, rfl, Nat.le_refl _⟩
theorem Sz.int {n : Nat} {i : Int} (h : i.natAbs ≤ BIG) : Sz (n + 1) 281 (.int i) := ⟨.int i, rfl, by simp [tame, h], by
  simp only [PyData.weight]
  split
  · exact Nat.zero_le _
  · rename_i h0
    have : i.natAbs ≠ 0 := fun z => h0 (by simp; omega)
    have := (Nat.log2_lt this).mpr (show i.natAbs < 2 ^ 281 from Nat.lt_of_le_of_lt h (by decide))
    omega⟩
theorem Sz.num {n : Nat} {i : Int} (h : i.natAbs < 1048576) : Sz (n + 1) 20 (.int i) := ⟨.int i, rfl, by simp [tame]; exact Nat.le_trans (Nat.le_of_lt h) (by decide), by
  simp only [PyData.weight]
  split
  · exact Nat.zero_le _
  · rename_i h0
    have : i.natAbs ≠ 0 := fun z => h0 (by simp; omega)
    have := (Nat.log2_lt this).mpr (show i.natAbs < 2 ^ 20 from h)
    omega⟩
theorem Sz.str {n : Nat} {x : Str} (h : (x.cps.toList.all fun c => decide (c < 16 ^ 8)) = true) : Sz (n + 1) x.cps.size (.str x) := ⟨.str x, rfl, h, Nat.le_refl _⟩
theorem Sz.lit {n w : Nat} (s : String) (h : (Str.ofString s).cps.size ≤ w) : Sz (n + 1) w (.str (Str.ofString s)) := (Sz.str (ofString_signs s)).mono (Nat.le_refl _) h
theorem Szs.nil {n : Nat} : Szs n 0 [] := ⟨[], rfl, rfl, Nat.le_refl _⟩
theorem Szs.cons {n a b : Nat} {u : U} {us : List U} (h : Sz n a u) (t : Szs n b us) : Szs n (a + 1 + b) (u :: us) := by
  obtain ⟨p, h1, h2, h3⟩ := h
  obtain ⟨ps, t1, t2, t3⟩ := t
  refine ⟨p :: ps, by simp [optAll, h1, t1], by simp [tames, h2, t2], ?_⟩
  simp only [PyData.weightAll]
  omega
theorem Szs.app {n a b : Nat} {us vs : List U} (h : Szs n a us) (t : Szs n b vs) : Szs n (a + b) (us ++ vs) := by
  obtain ⟨p, h1, h2, h3⟩ := h
  obtain ⟨ps, t1, t2, t3⟩ := t
  exact ⟨p ++ ps, optAll_app h1 t1, by simp [tames_app, h2, t2], by rw [weightAll_app]; omega⟩
theorem Szs.all {n w m : Nat} : ∀ {us : List U}, (∀ u ∈ us, Sz n w u) → us.length ≤ m → Szs n (m * (w + 1)) us
  | [], _, _ => Szs.nil.mono (Nat.le_refl _) (Nat.zero_le _)
  | u :: us, h, hl => by
    rw [List.length_cons] at hl
    obtain ⟨m', rfl⟩ : ∃ m', m = m' + 1 := ⟨m - 1, by omega⟩
    exact (Szs.cons (h u List.mem_cons_self) (Szs.all (m := m') (fun v hv => h v (List.mem_cons_of_mem _ hv)) (by omega))).mono (Nat.le_refl _) (by rw [Nat.add_mul, Nat.one_mul]; omega)
theorem Sz.tup {n w : Nat} {us : List U} (h : Szs n w us) : Sz (n + 1) w (.tup us) := by
  obtain ⟨ps, h1, h2, h3⟩ := h
  exact ⟨.tuple ps, by simp [uP, h1], by simpa [tame] using h2, by simpa [PyData.weight] using h3⟩
theorem Sz.lst {n w : Nat} {us : List U} (h : Szs n w us) : Sz (n + 1) w (.lst us) := by
  obtain ⟨ps, h1, h2, h3⟩ := h
  exact ⟨.list ps, by simp [uP, h1], by simpa [tame] using h2, by simpa [PyData.weight] using h3⟩
theorem uP_depth : ∀ (f : Nat) (u : U) (p : PyData), uP f u = some p → p.depth ≤ f
  | 0, _, _, h => by simp [uP] at h
  | f + 1, u, p, h => by
    have ih := uP_depth f
    have key : ∀ (us : List U) (ps : List PyData), optAll (uP f) us = some ps → PyData.depthAll ps ≤ f := fun us ps e => depthAll_le fun p hp => let ⟨u, _, hu⟩ := optAll_mem e p hp; ih u p hu
    unfold uP at h
    split at h
    · cases h; simp [PyData.depth]
    · cases h; simp [PyData.depth]
    · cases h; simp [PyData.depth]
    · cases h; simp [PyData.depth]
    · rw [Option.map_eq_some_iff] at h
      obtain ⟨ps, h1, rfl⟩ := h
      have := key _ _ h1
      simp only [PyData.depth]; omega
    · rw [Option.map_eq_some_iff] at h
      obtain ⟨ps, h1, rfl⟩ := h
      have := key _ _ h1
      simp only [PyData.depth]; omega
    · rw [Option.map_eq_some_iff] at h
      obtain ⟨ps, h1, rfl⟩ := h
      rename_i ks us
      have : PyData.depthKv ((List.map keyP ks).zip ps) ≤ f := depthKv_le (n := f) fun q hq => by
        obtain ⟨a, b⟩ := q
        have hm := List.of_mem_zip hq
        obtain ⟨k, _, rfl⟩ := List.mem_map.mp hm.1
        obtain ⟨u, _, hu⟩ := optAll_mem h1 b hm.2
        exact ⟨by cases k <;> simp [keyP, PyData.depth], ih u b hu⟩
      simp only [PyData.depth]; omega
    · cases h
theorem Sz.ok {n w : Nat} {u : U} (h : Sz n w u) (hn : n ≤ 63 := by decide) (hw : w ≤ 50000 := by decide) : ∃ p, uP 63 u = some p ∧ ShowOk p := by
  obtain ⟨p, h1, h2, h3⟩ := h.mono hn hw
  have hB : BIG < 2 ^ 290 := by decide
  exact ⟨p, h1, (tame_leaf hB p h2).2, tame_len hB h2 h3, uP_depth 63 u p h1⟩
def shw (u : U) : Str := match uP 63 u with
  | some p => p.shown
  | none => ""
theorem Sz.repr {n w : Nat} {u : U} {X : ExK} {k : U → Prop} (h : Sz n w u) (hn : n ≤ 63 := by decide) (hw : w ≤ 50000 := by decide) : vRepr [u] X k = k (.str (shw u)) := by
  obtain ⟨p, h1, h2⟩ := h.ok hn hw
  rw [vRepr_def]
  simp only [shw, h1, h2, oK_some, true_and]
end HV
namespace HV
open PySem PySem.Spec PyProof.Rows L2 HA
@[simp] theorem vNil_ints (neg : Bool) (ns : List Int) (X : ExK) (kb : Bool → Prop) : vNil neg (ns.map U.int) X kb = kb (if ns = [] then !neg else neg) := by
  cases ns with
  | nil => rfl
  | cons x ns =>
    rw [List.map_cons, vNil_cons]
    simp
end HV
namespace HV
open PySem PySem.Spec PyProof.Rows L2 HA
def Of {α : Type} (ys : List α) (y : α) : Prop := y ∈ ys
@[simp high] theorem pick2int (a b : Int) (X : ExK) (k' : U → Prop) (dd : Dm fun u => vLIx [.int a, .int b] u X k') : aD 2 (fun u => vLIx [.int a, .int b] u X k') dd = ∀ y : Int, Of [a, b] y → k' (.int y) := by
  refine propext ⟨fun h y hy => ?_, fun h v hv => ?_⟩
  · simp only [Of, List.mem_cons, List.not_mem_nil, or_false] at hy
    rcases hy with rfl | rfl
    · exact h 0 (by omega)
    · exact h 1 (by omega)
  · match v, hv with
    | 0, _ => exact h _ (by simp [Of])
    | 1, _ => exact h _ (by simp [Of])
    | v + 2, hv => exact absurd hv (by omega)
@[simp high] theorem pick2str (a b : Str) (X : ExK) (k' : U → Prop) (dd : Dm fun u => vLIx [.str a, .str b] u X k') : aD 2 (fun u => vLIx [.str a, .str b] u X k') dd = ∀ y : Str, Of [a, b] y → k' (.str y) := by
  refine propext ⟨fun h y hy => ?_, fun h v hv => ?_⟩
  · simp only [Of, List.mem_cons, List.not_mem_nil, or_false] at hy
    rcases hy with rfl | rfl
    · exact h 0 (by omega)
    · exact h 1 (by omega)
  · match v, hv with
    | 0, _ => exact h _ (by simp [Of])
    | 1, _ => exact h _ (by simp [Of])
    | v + 2, hv => exact absurd hv (by omega)
@[simp high] theorem pick3int (a b c : Int) (X : ExK) (k' : U → Prop) (dd : Dm fun u => vLIx [.int a, .int b, .int c] u X k') : aD 3 (fun u => vLIx [.int a, .int b, .int c] u X k') dd = ∀ y : Int, Of [a, b, c] y → k' (.int y) := by
  refine propext ⟨fun h y hy => ?_, fun h v hv => ?_⟩
  · simp only [Of, List.mem_cons, List.not_mem_nil, or_false] at hy
    rcases hy with rfl | rfl | rfl
    · exact h 0 (by omega)
    · exact h 1 (by omega)
    · exact h 2 (by omega)
  · match v, hv with
    | 0, _ => exact h _ (by simp [Of])
    | 1, _ => exact h _ (by simp [Of])
    | 2, _ => exact h _ (by simp [Of])
    | v + 3, hv => exact absurd hv (by omega)
@[simp high] theorem pick3str (a b c : Str) (X : ExK) (k' : U → Prop) (dd : Dm fun u => vLIx [.str a, .str b, .str c] u X k') : aD 3 (fun u => vLIx [.str a, .str b, .str c] u X k') dd = ∀ y : Str, Of [a, b, c] y → k' (.str y) := by
  refine propext ⟨fun h y hy => ?_, fun h v hv => ?_⟩
  · simp only [Of, List.mem_cons, List.not_mem_nil, or_false] at hy
    rcases hy with rfl | rfl | rfl
    · exact h 0 (by omega)
    · exact h 1 (by omega)
    · exact h 2 (by omega)
  · match v, hv with
    | 0, _ => exact h _ (by simp [Of])
    | 1, _ => exact h _ (by simp [Of])
    | 2, _ => exact h _ (by simp [Of])
    | v + 3, hv => exact absurd hv (by omega)
@[simp high] theorem pick4int (a b c d : Int) (X : ExK) (k' : U → Prop) (dd : Dm fun u => vLIx [.int a, .int b, .int c, .int d] u X k') : aD 4 (fun u => vLIx [.int a, .int b, .int c, .int d] u X k') dd = ∀ y : Int, Of [a, b, c, d] y → k' (.int y) := by
  refine propext ⟨fun h y hy => ?_, fun h v hv => ?_⟩
  · simp only [Of, List.mem_cons, List.not_mem_nil, or_false] at hy
    rcases hy with rfl | rfl | rfl | rfl
    · exact h 0 (by omega)
    · exact h 1 (by omega)
    · exact h 2 (by omega)
    · exact h 3 (by omega)
  · match v, hv with
    | 0, _ => exact h _ (by simp [Of])
    | 1, _ => exact h _ (by simp [Of])
    | 2, _ => exact h _ (by simp [Of])
    | 3, _ => exact h _ (by simp [Of])
    | v + 4, hv => exact absurd hv (by omega)
@[simp high] theorem pick4str (a b c d : Str) (X : ExK) (k' : U → Prop) (dd : Dm fun u => vLIx [.str a, .str b, .str c, .str d] u X k') : aD 4 (fun u => vLIx [.str a, .str b, .str c, .str d] u X k') dd = ∀ y : Str, Of [a, b, c, d] y → k' (.str y) := by
  refine propext ⟨fun h y hy => ?_, fun h v hv => ?_⟩
  · simp only [Of, List.mem_cons, List.not_mem_nil, or_false] at hy
    rcases hy with rfl | rfl | rfl | rfl
    · exact h 0 (by omega)
    · exact h 1 (by omega)
    · exact h 2 (by omega)
    · exact h 3 (by omega)
  · match v, hv with
    | 0, _ => exact h _ (by simp [Of])
    | 1, _ => exact h _ (by simp [Of])
    | 2, _ => exact h _ (by simp [Of])
    | 3, _ => exact h _ (by simp [Of])
    | v + 4, hv => exact absurd hv (by omega)
@[simp high] theorem pick5int (a b c d e : Int) (X : ExK) (k' : U → Prop) (dd : Dm fun u => vLIx [.int a, .int b, .int c, .int d, .int e] u X k') : aD 5 (fun u => vLIx [.int a, .int b, .int c, .int d, .int e] u X k') dd = ∀ y : Int, Of [a, b, c, d, e] y → k' (.int y) := by
  refine propext ⟨fun h y hy => ?_, fun h v hv => ?_⟩
  · simp only [Of, List.mem_cons, List.not_mem_nil, or_false] at hy
    rcases hy with rfl | rfl | rfl | rfl | rfl
    · exact h 0 (by omega)
    · exact h 1 (by omega)
    · exact h 2 (by omega)
    · exact h 3 (by omega)
    · exact h 4 (by omega)
  · match v, hv with
    | 0, _ => exact h _ (by simp [Of])
    | 1, _ => exact h _ (by simp [Of])
    | 2, _ => exact h _ (by simp [Of])
    | 3, _ => exact h _ (by simp [Of])
    | 4, _ => exact h _ (by simp [Of])
    | v + 5, hv => exact absurd hv (by omega)
@[simp high] theorem pick5str (a b c d e : Str) (X : ExK) (k' : U → Prop) (dd : Dm fun u => vLIx [.str a, .str b, .str c, .str d, .str e] u X k') : aD 5 (fun u => vLIx [.str a, .str b, .str c, .str d, .str e] u X k') dd = ∀ y : Str, Of [a, b, c, d, e] y → k' (.str y) := by
  refine propext ⟨fun h y hy => ?_, fun h v hv => ?_⟩
  · simp only [Of, List.mem_cons, List.not_mem_nil, or_false] at hy
    rcases hy with rfl | rfl | rfl | rfl | rfl
    · exact h 0 (by omega)
    · exact h 1 (by omega)
    · exact h 2 (by omega)
    · exact h 3 (by omega)
    · exact h 4 (by omega)
  · match v, hv with
    | 0, _ => exact h _ (by simp [Of])
    | 1, _ => exact h _ (by simp [Of])
    | 2, _ => exact h _ (by simp [Of])
    | 3, _ => exact h _ (by simp [Of])
    | 4, _ => exact h _ (by simp [Of])
    | v + 5, hv => exact absurd hv (by omega)
@[simp high] theorem pick6int (a b c d e f : Int) (X : ExK) (k' : U → Prop) (dd : Dm fun u => vLIx [.int a, .int b, .int c, .int d, .int e, .int f] u X k') : aD 6 (fun u => vLIx [.int a, .int b, .int c, .int d, .int e, .int f] u X k') dd = ∀ y : Int, Of [a, b, c, d, e, f] y → k' (.int y) := by
  refine propext ⟨fun h y hy => ?_, fun h v hv => ?_⟩
  · simp only [Of, List.mem_cons, List.not_mem_nil, or_false] at hy
    rcases hy with rfl | rfl | rfl | rfl | rfl | rfl
    · exact h 0 (by omega)
    · exact h 1 (by omega)
    · exact h 2 (by omega)
    · exact h 3 (by omega)
    · exact h 4 (by omega)
    · exact h 5 (by omega)
  · match v, hv with
    | 0, _ => exact h _ (by simp [Of])
    | 1, _ => exact h _ (by simp [Of])
    | 2, _ => exact h _ (by simp [Of])
    | 3, _ => exact h _ (by simp [Of])
    | 4, _ => exact h _ (by simp [Of])
    | 5, _ => exact h _ (by simp [Of])
    | v + 6, hv => exact absurd hv (by omega)
@[simp high] theorem pick6str (a b c d e f : Str) (X : ExK) (k' : U → Prop) (dd : Dm fun u => vLIx [.str a, .str b, .str c, .str d, .str e, .str f] u X k') : aD 6 (fun u => vLIx [.str a, .str b, .str c, .str d, .str e, .str f] u X k') dd = ∀ y : Str, Of [a, b, c, d, e, f] y → k' (.str y) := by
  refine propext ⟨fun h y hy => ?_, fun h v hv => ?_⟩
  · simp only [Of, List.mem_cons, List.not_mem_nil, or_false] at hy
    rcases hy with rfl | rfl | rfl | rfl | rfl | rfl
    · exact h 0 (by omega)
    · exact h 1 (by omega)
    · exact h 2 (by omega)
    · exact h 3 (by omega)
    · exact h 4 (by omega)
    · exact h 5 (by omega)
  · match v, hv with
    | 0, _ => exact h _ (by simp [Of])
    | 1, _ => exact h _ (by simp [Of])
    | 2, _ => exact h _ (by simp [Of])
    | 3, _ => exact h _ (by simp [Of])
    | 4, _ => exact h _ (by simp [Of])
    | 5, _ => exact h _ (by simp [Of])
    | v + 6, hv => exact absurd hv (by omega)
@[simp high] theorem pick7int (a b c d e f g : Int) (X : ExK) (k' : U → Prop) (dd : Dm fun u => vLIx [.int a, .int b, .int c, .int d, .int e, .int f, .int g] u X k') : aD 7 (fun u => vLIx [.int a, .int b, .int c, .int d, .int e, .int f, .int g] u X k') dd = ∀ y : Int, Of [a, b, c, d, e, f, g] y → k' (.int y) := by
  refine propext ⟨fun h y hy => ?_, fun h v hv => ?_⟩
  · simp only [Of, List.mem_cons, List.not_mem_nil, or_false] at hy
    rcases hy with rfl | rfl | rfl | rfl | rfl | rfl | rfl
    · exact h 0 (by omega)
    · exact h 1 (by omega)
    · exact h 2 (by omega)
    · exact h 3 (by omega)
    · exact h 4 (by omega)
    · exact h 5 (by omega)
    · exact h 6 (by omega)
  · match v, hv with
    | 0, _ => exact h _ (by simp [Of])
    | 1, _ => exact h _ (by simp [Of])
    | 2, _ => exact h _ (by simp [Of])
    | 3, _ => exact h _ (by simp [Of])
    | 4, _ => exact h _ (by simp [Of])
    | 5, _ => exact h _ (by simp [Of])
    | 6, _ => exact h _ (by simp [Of])
    | v + 7, hv => exact absurd hv (by omega)
@[simp high] theorem pick7str (a b c d e f g : Str) (X : ExK) (k' : U → Prop) (dd : Dm fun u => vLIx [.str a, .str b, .str c, .str d, .str e, .str f, .str g] u X k') : aD 7 (fun u => vLIx [.str a, .str b, .str c, .str d, .str e, .str f, .str g] u X k') dd = ∀ y : Str, Of [a, b, c, d, e, f, g] y → k' (.str y) := by
  refine propext ⟨fun h y hy => ?_, fun h v hv => ?_⟩
  · simp only [Of, List.mem_cons, List.not_mem_nil, or_false] at hy
    rcases hy with rfl | rfl | rfl | rfl | rfl | rfl | rfl
    · exact h 0 (by omega)
    · exact h 1 (by omega)
    · exact h 2 (by omega)
    · exact h 3 (by omega)
    · exact h 4 (by omega)
    · exact h 5 (by omega)
    · exact h 6 (by omega)
  · match v, hv with
    | 0, _ => exact h _ (by simp [Of])
    | 1, _ => exact h _ (by simp [Of])
    | 2, _ => exact h _ (by simp [Of])
    | 3, _ => exact h _ (by simp [Of])
    | 4, _ => exact h _ (by simp [Of])
    | 5, _ => exact h _ (by simp [Of])
    | 6, _ => exact h _ (by simp [Of])
    | v + 7, hv => exact absurd hv (by omega)
@[simp high] theorem pick8int (a b c d e f g h : Int) (X : ExK) (k' : U → Prop) (dd : Dm fun u => vLIx [.int a, .int b, .int c, .int d, .int e, .int f, .int g, .int h] u X k') : aD 8 (fun u => vLIx [.int a, .int b, .int c, .int d, .int e, .int f, .int g, .int h] u X k') dd = ∀ y : Int, Of [a, b, c, d, e, f, g, h] y → k' (.int y) := by
  refine propext ⟨fun h y hy => ?_, fun h v hv => ?_⟩
  · simp only [Of, List.mem_cons, List.not_mem_nil, or_false] at hy
    rcases hy with rfl | rfl | rfl | rfl | rfl | rfl | rfl | rfl
    · exact h 0 (by omega)
    · exact h 1 (by omega)
    · exact h 2 (by omega)
    · exact h 3 (by omega)
    · exact h 4 (by omega)
    · exact h 5 (by omega)
    · exact h 6 (by omega)
    · exact h 7 (by omega)
  · match v, hv with
    | 0, _ => exact h _ (by simp [Of])
    | 1, _ => exact h _ (by simp [Of])
    | 2, _ => exact h _ (by simp [Of])
    | 3, _ => exact h _ (by simp [Of])
    | 4, _ => exact h _ (by simp [Of])
    | 5, _ => exact h _ (by simp [Of])
    | 6, _ => exact h _ (by simp [Of])
    | 7, _ => exact h _ (by simp [Of])
    | v + 8, hv => exact absurd hv (by omega)
@[simp high] theorem pick8str (a b c d e f g h : Str) (X : ExK) (k' : U → Prop) (dd : Dm fun u => vLIx [.str a, .str b, .str c, .str d, .str e, .str f, .str g, .str h] u X k') : aD 8 (fun u => vLIx [.str a, .str b, .str c, .str d, .str e, .str f, .str g, .str h] u X k') dd = ∀ y : Str, Of [a, b, c, d, e, f, g, h] y → k' (.str y) := by
  refine propext ⟨fun h y hy => ?_, fun h v hv => ?_⟩
  · simp only [Of, List.mem_cons, List.not_mem_nil, or_false] at hy
    rcases hy with rfl | rfl | rfl | rfl | rfl | rfl | rfl | rfl
    · exact h 0 (by omega)
    · exact h 1 (by omega)
    · exact h 2 (by omega)
    · exact h 3 (by omega)
    · exact h 4 (by omega)
    · exact h 5 (by omega)
    · exact h 6 (by omega)
    · exact h 7 (by omega)
  · match v, hv with
    | 0, _ => exact h _ (by simp [Of])
    | 1, _ => exact h _ (by simp [Of])
    | 2, _ => exact h _ (by simp [Of])
    | 3, _ => exact h _ (by simp [Of])
    | 4, _ => exact h _ (by simp [Of])
    | 5, _ => exact h _ (by simp [Of])
    | 6, _ => exact h _ (by simp [Of])
    | 7, _ => exact h _ (by simp [Of])
    | v + 8, hv => exact absurd hv (by omega)
theorem aD_pick {α : Type} {g : α → U} {ys : List α} {us : List U} {b : Int} {X : ExK} {k : U → Prop} {d : Dm fun u => vLIx us u X k} (hu : us = ys.map g) (hb : b = ys.length) (h : ∀ y, y ∈ ys → k (g y)) : aD b (fun u => vLIx us u X k) d := fun v hv => by
  subst hu; subst hb
  have hv' : v < ys.length := by omega
  simp [hv']
  exact h _ (List.getElem_mem _)
@[simp low] theorem aD_def (b : Int) (k : U → Prop) (d : Dm k) : aD b k d = ∀ v : Nat, (v : Int) < b → k (.int v) := rfl
end HV
namespace HV
open PySem PySem.Spec PyProof.Rows L2 HA
def Lay (n : Nat) (u : U) : Prop := ∃ p, uP n u = some p ∧ p.canLay0 = true
def Lays (n : Nat) (us : List U) : Prop := ∃ ps, optAll (uP n) us = some ps ∧ PyData.canLayAll0 ps = true
theorem Lay.mono {n n' : Nat} {u : U} (h : Lay n u) (hn : n ≤ n') : Lay n' u := let ⟨p, h1, h2⟩ := h; ⟨p, uP_le hn u p h1, h2⟩
theorem Lay.non {n : Nat} : Lay (n + 1) .non := ⟨.none, rfl, rfl⟩
theorem Lay.bl {n : Nat} {b : Bool} : Lay (n + 1) (.bl b) := ⟨.bool b, rfl, rfl⟩
theorem Lay.int {n : Nat} {i : Int} : Lay (n + 1) (.int i) := ⟨.int i, rfl, rfl⟩
theorem Lay.str {n : Nat} {x : Str} (h : PyData.strOk x = true) : Lay (n + 1) (.str x) := ⟨.str x, rfl, h⟩
theorem Lays.nil {n : Nat} : Lays n [] := ⟨[], rfl, rfl⟩
theorem Lays.cons {n : Nat} {u : U} {us : List U} (h : Lay n u) (t : Lays n us) : Lays n (u :: us) := by
  obtain ⟨p, h1, h2⟩ := h
  obtain ⟨ps, t1, t2⟩ := t
  exact ⟨p :: ps, by simp [optAll, h1, t1], by simp [PyData.canLayAll0, h2, t2]⟩
theorem Lays.all {n : Nat} : ∀ {us : List U}, (∀ u ∈ us, Lay n u) → Lays n us
  | [], _ => Lays.nil
  | u :: us, h => Lays.cons (h u List.mem_cons_self) (Lays.all fun v hv => h v (List.mem_cons_of_mem _ hv))
theorem Lay.tup {n : Nat} {us : List U} (h : Lays n us) : Lay (n + 1) (.tup us) := by
  obtain ⟨ps, h1, h2⟩ := h
  exact ⟨.tuple ps, by simp [uP, h1], h2⟩
theorem Lay.lst {n : Nat} {us : List U} (h : Lays n us) : Lay (n + 1) (.lst us) := by
  obtain ⟨ps, h1, h2⟩ := h
  exact ⟨.list ps, by simp [uP, h1], h2⟩
theorem Lays.shaped {n : Nat} {us : List U} (h : Lays n us) (hn : n ≤ 62) : ∃ ps, optAll (uP 62) us = some ps ∧ SeqAt.shaped (.list ps) = true := by
  obtain ⟨ps, h1, h2⟩ := h
  have h1' := optAll_mono (uP_le hn) h1
  refine ⟨ps, h1', ?_⟩
  have hd : PyData.depthAll ps ≤ 62 := depthAll_le fun p hp => let ⟨u, _, hu⟩ := optAll_mem h1' p hp; uP_depth 62 u p hu
  unfold SeqAt.shaped
  simp [PyData.canLay0, h2, PyData.depth]
  omega
theorem Lays.vnil {n : Nat} {neg : Bool} {us : List U} {X : ExK} {kb : Bool → Prop} (h : Lays n us) (hn : n ≤ 62 := by decide) : vNil neg us X kb = kb (if us = [] then !neg else neg) := by
  cases us with
  | nil => rfl
  | cons u us =>
    rw [vNil_cons]
    simp
theorem vnil {neg : Bool} {us : List U} {X : ExK} {kb : Bool → Prop} : vNil neg us X kb = kb (if us = [] then !neg else neg) := by
  cases us with
  | nil => rfl
  | cons u us =>
    rw [vNil_cons]
    simp
end HV
namespace HV
open PySem PySem.Spec PyProof.Rows L2 HA
theorem All2.each {α β : Type} {P : β → Prop} {as : List α} {bs : List β} (h : All2 (fun _ b => P b) as bs) : ∀ b ∈ bs, P b := by
  induction h with
  | nil => intro b hb; cases hb
  | cons h1 _ ih =>
    intro b hb
    rcases List.mem_cons.mp hb with rfl | hb
    · exact h1
    · exact ih b hb
theorem lcL_each {vt : VTM} {pe : VE U} {Γ : UEnv} {us : List U} {k : List U → Prop} (P : U → Prop) (h : ∀ u, u ∈ us → ∃ bs, vt u = some bs ∧ ∀ k : U → Prop, (∀ y, P y → k y) → pe (setU Γ bs) XF k) (hk : ∀ ys, ys.length = us.length → (∀ y ∈ ys, P y) → k ys) : lcL vt vYes pe Γ us k () :=
  lcL_all (fun _ y => P y) h fun ys hy => hk ys hy.len.symm hy.each
end HV
namespace HV
open PySem PySem.Spec PyProof.Rows L2 HA
@[simp] theorem cut_from {α : Type} (xs : List α) (i : Int) (h : 0 ≤ i) : HA.cut xs (some i) none = xs.drop i.toNat := by
  have := cut_tail xs i.toNat
  rwa [Int.toNat_of_nonneg h] at this
@[simp] theorem cut_to {α : Type} (xs : List α) (i : Int) (h : 0 ≤ i) : HA.cut xs none (some i) = xs.take i.toNat := by
  have := cut_head xs i.toNat
  rwa [Int.toNat_of_nonneg h] at this
end HV
namespace HV
open PySem PySem.Spec PyProof.Rows L2 HA
@[simp] theorem optAll_uInt_map {α : Type} (f : α → Int) (xs : List α) : optAll uInt (xs.map fun x => U.int (f x)) = some (xs.map f) := by
  have := ints_optAll (xs.map f)
  simpa [Function.comp_def] using this
@[simp] theorem optAll_uInt_comp {α : Type} (f : α → Int) (xs : List α) : optAll uInt (xs.map (U.int ∘ f)) = some (xs.map f) := optAll_uInt_map f xs
theorem foldl_max {a b : Int} : ∀ (ns : List Int) (n : Int), a ≤ n ∧ n ≤ b → (∀ x ∈ ns, x ≤ b) → a ≤ ns.foldl max n ∧ ns.foldl max n ≤ b
  | [], n, h, _ => h
  | x :: ns, n, h, hx => by
    rw [List.foldl_cons]
    have := hx x List.mem_cons_self
    exact foldl_max ns (max n x) (by omega) fun y hy => hx y (List.mem_cons_of_mem _ hy)
end HV
namespace HV
open PySem PySem.Spec PyProof.Rows L2 HA
@[simp ↓] theorem cal_pick (p : List U → ExK → (U → Prop) → Prop) (π : List Nat) (us : List U) (X : ExK) (k : U → Prop) (d : Dm (X, k)) : cal (fun us => p (pick π [] us)) us X k d = cal p (pick π [] us) X k () := nrfl rfl
@[simp] theorem pick_nil (us : List U) : pick [] [] us = [] := nrfl rfl
@[simp] theorem pick_cons (i : Nat) (π : List Nat) (us : List U) : pick (i :: π) [] us = match us[i]? with
  | some u => u :: pick π [] us
  | none => pick π [] us := by
  unfold pick
  simp only [List.nil_append, List.filterMap_cons]
  cases us[i]? <;> rfl
end HV
namespace HV
open PySem PySem.Spec PyProof.Rows L2 HA
def zipU (xs ys : List U) : List U := (xs.zip ys).map fun p => .tup [p.1, p.2]
section
variable {α β : Type} (Γ : UEnv) (X : ExK) (k : U → Prop) (kl : List U → Prop)
@[simp ↓] theorem vC_tup (ds : List D) : vC (.tup ds) Γ X k = k (.tup (toUs ds)) := nrfl rfl
theorem vIn_tup (u : U) (us : List U) (kb : Bool → Prop) : vIn u (.tup us) X kb = uIn u us kb := by unfold vIn; cases u <;> rfl
@[simp ↓] theorem vLc2_def (pi : VE (List U)) (vt : VTM) (pt : VE Bool) (pi1 : VE (List U)) (vt1 : VTM) (pt1 : VE Bool) (pe : VE U) (vs vs1 : List Nat) : vLc2 pi vt pt pi1 vt1 pt1 pe vs vs1 Γ X k = pi Γ X fun us => us.length ≤ 4096 ∧ lcL vt pt (vInn pi1 vt1 pt1 pe vs1) (wipeU Γ vs) us (fun yss => k (.lst (flatU yss))) () := nrfl rfl
@[simp ↓] theorem vInn_def (pi1 : VE (List U)) (vt1 : VTM) (pt1 : VE Bool) (pe : VE U) (vs1 : List Nat) : vInn pi1 vt1 pt1 pe vs1 Γ X k = pi1 Γ XF fun us1 => us1.length ≤ 4096 ∧ lcL vt1 pt1 pe (wipeU Γ vs1) us1 (fun ys => k (.lst ys)) () := nrfl rfl
@[simp ↓] theorem vZip_ll (st : Bool) (xs ys : List U) : vZip st (.lst xs) (.lst ys) X kl = ((st = true → xs.length = ys.length) ∧ kl (zipU xs ys)) := nrfl rfl
@[simp ↓] theorem vZip_lt (st : Bool) (xs ys : List U) : vZip st (.lst xs) (.tup ys) X kl = ((st = true → xs.length = ys.length) ∧ kl (zipU xs ys)) := nrfl rfl
@[simp ↓] theorem vZip_tl (st : Bool) (xs ys : List U) : vZip st (.tup xs) (.lst ys) X kl = ((st = true → xs.length = ys.length) ∧ kl (zipU xs ys)) := nrfl rfl
@[simp ↓] theorem vZip_tt (st : Bool) (xs ys : List U) : vZip st (.tup xs) (.tup ys) X kl = ((st = true → xs.length = ys.length) ∧ kl (zipU xs ys)) := nrfl rfl
theorem zipU_map (f : α → U) (g : β → U) (xs : List α) (ys : List β) : zipU (xs.map f) (ys.map g) = (xs.zip ys).map fun p => .tup [f p.1, g p.2] := by
  unfold zipU
  rw [List.zip_map, List.map_map]
  rfl
theorem flatU_map (f : α → List U) (xs : List α) : flatU (xs.map fun x => .lst (f x)) = (xs.map f).flatten := by
  unfold flatU
  rw [List.map_map]
  rfl
@[simp] theorem flatU_nil : flatU [] = [] := nrfl rfl
theorem pairs_optAll : ∀ (ps : List (Int × Int)), optAll uPair (ps.map uOfPair) = some ps
  | [] => rfl
  | p :: ps => by rw [List.map_cons]; unfold optAll; rw [pairs_optAll ps]; rfl
end
@[simp] theorem cut_most {α : Type} (xs : List α) : HA.cut xs none (some (-1)) = xs.dropLast := by
  unfold HA.cut
  rw [HT.sIx_none]
  have : HT.sIx xs.length xs.length (some (-1)) = xs.length - 1 := by
    show (if (-1 : Int) < 0 then ((-1 : Int) + (xs.length : Int)).toNat else min (-1 : Int).toNat xs.length) = xs.length - 1
    rw [if_pos (by decide)]
    omega
  rw [this, List.dropLast_eq_take]
  simp
theorem lcL_mapI {vt : VTM} {pe : VE U} {Γ : UEnv} (f : U → U) (us : List U) (k : List U → Prop) (d : Dm (vYes, pe, k)) (h : ∀ u, u ∈ us → ∃ bs, vt u = some bs ∧ (∀ k, pe (setU Γ bs) XF k = k (f u))) : lcL vt vYes pe Γ us k d = k (us.map f) := by
  have := lcL_map1 (vt := vt) (pe := pe) (Γ := Γ) id f us k d h
  rwa [List.map_id] at this
@[simp] theorem ty_NoneType_int : tyIs "NoneType" "int" = false := by decide
@[simp] theorem ty_NoneType_str : tyIs "NoneType" "str" = false := by decide
@[simp] theorem ty_NoneType_bool : tyIs "NoneType" "bool" = false := by decide
@[simp] theorem ty_NoneType_tuple : tyIs "NoneType" "tuple" = false := by decide
@[simp] theorem ty_NoneType_list : tyIs "NoneType" "list" = false := by decide
@[simp] theorem ty_NoneType_dict : tyIs "NoneType" "dict" = false := by decide
@[simp] theorem ty_bool_int : tyIs "bool" "int" = true := by decide
@[simp] theorem ty_bool_str : tyIs "bool" "str" = false := by decide
@[simp] theorem ty_bool_bool : tyIs "bool" "bool" = true := by decide
@[simp] theorem ty_bool_tuple : tyIs "bool" "tuple" = false := by decide
@[simp] theorem ty_bool_list : tyIs "bool" "list" = false := by decide
@[simp] theorem ty_bool_dict : tyIs "bool" "dict" = false := by decide
@[simp] theorem ty_int_int : tyIs "int" "int" = true := by decide
@[simp] theorem ty_int_str : tyIs "int" "str" = false := by decide
@[simp] theorem ty_int_bool : tyIs "int" "bool" = false := by decide
@[simp] theorem ty_int_tuple : tyIs "int" "tuple" = false := by decide
@[simp] theorem ty_int_list : tyIs "int" "list" = false := by decide
@[simp] theorem ty_int_dict : tyIs "int" "dict" = false := by decide
@[simp] theorem ty_str_int : tyIs "str" "int" = false := by decide
@[simp] theorem ty_str_str : tyIs "str" "str" = true := by decide
@[simp] theorem ty_str_bool : tyIs "str" "bool" = false := by decide
@[simp] theorem ty_str_tuple : tyIs "str" "tuple" = false := by decide
@[simp] theorem ty_str_list : tyIs "str" "list" = false := by decide
@[simp] theorem ty_str_dict : tyIs "str" "dict" = false := by decide
@[simp] theorem ty_tuple_int : tyIs "tuple" "int" = false := by decide
@[simp] theorem ty_tuple_str : tyIs "tuple" "str" = false := by decide
@[simp] theorem ty_tuple_bool : tyIs "tuple" "bool" = false := by decide
@[simp] theorem ty_tuple_tuple : tyIs "tuple" "tuple" = true := by decide
@[simp] theorem ty_tuple_list : tyIs "tuple" "list" = false := by decide
@[simp] theorem ty_tuple_dict : tyIs "tuple" "dict" = false := by decide
@[simp] theorem ty_list_int : tyIs "list" "int" = false := by decide
@[simp] theorem ty_list_str : tyIs "list" "str" = false := by decide
@[simp] theorem ty_list_bool : tyIs "list" "bool" = false := by decide
@[simp] theorem ty_list_tuple : tyIs "list" "tuple" = false := by decide
@[simp] theorem ty_list_list : tyIs "list" "list" = true := by decide
@[simp] theorem ty_list_dict : tyIs "list" "dict" = false := by decide
@[simp] theorem ty_dict_int : tyIs "dict" "int" = false := by decide
@[simp] theorem ty_dict_str : tyIs "dict" "str" = false := by decide
@[simp] theorem ty_dict_bool : tyIs "dict" "bool" = false := by decide
@[simp] theorem ty_dict_tuple : tyIs "dict" "tuple" = false := by decide
@[simp] theorem ty_dict_list : tyIs "dict" "list" = false := by decide
@[simp] theorem ty_dict_dict : tyIs "dict" "dict" = true := by decide
end HV
namespace HV
open PySem PySem.Spec PyProof.Rows L2 HA
mutual
def plainP : PyData → Bool
  | .none | .int _ | .str _ => true
  | .tuple xs | .list xs => plainPs xs
  | _ => false
def plainPs : List PyData → Bool
  | [] => true
  | x :: xs => plainP x && plainPs xs
end
mutual
theorem eqv_plain : ∀ p q : PyData, plainP p = true → plainP q = true → (PyData.eqv p q = true ↔ p = q)
  | .none, q, hp, hq => by cases q <;> simp_all [PyData.eqv, plainP]
  | .int i, q, hp, hq => by cases q <;> simp_all [PyData.eqv, plainP]
  | .str i, q, hp, hq => by cases q <;> simp_all [PyData.eqv, plainP]
  | .tuple xs, q, hp, hq => by
    cases q with
    | tuple ys =>
      simp only [plainP] at hp hq
      simp only [PyData.eqv, PyData.tuple.injEq]
      exact eqv_plains xs ys hp hq
    | _ => simp_all [PyData.eqv, plainP]
  | .list xs, q, hp, hq => by
    cases q with
    | list ys =>
      simp only [plainP] at hp hq
      simp only [PyData.eqv, PyData.list.injEq]
      exact eqv_plains xs ys hp hq
    | _ => simp_all [PyData.eqv, plainP]
  | .bool b, q, hp, hq => by simp [plainP] at hp
  | .dict b, q, hp, hq => by simp [plainP] at hp
theorem eqv_plains : ∀ p q : List PyData, plainPs p = true → plainPs q = true → (PyData.eqvAll p q = true ↔ p = q)
  | [], q, hp, hq => by cases q <;> simp [PyData.eqvAll]
  | x :: xs, q, hp, hq => by
    cases q with
    | nil => simp [PyData.eqvAll]
    | cons y ys =>
      simp only [plainPs, Bool.and_eq_true] at hp hq
      simp only [PyData.eqvAll, Bool.and_eq_true, List.cons.injEq]
      rw [eqv_plain x y hp.1 hq.1, eqv_plains xs ys hp.2 hq.2]
end
def Pl (n : Nat) (u : U) : Prop := ∃ p, uP n u = some p ∧ p.canLay0 = true ∧ plainP p = true
def Pls (n : Nat) (us : List U) : Prop := ∃ ps, optAll (uP n) us = some ps ∧ PyData.canLayAll0 ps = true ∧ plainPs ps = true
theorem Pl.mono {n n' : Nat} {u : U} (h : Pl n u) (hn : n ≤ n') : Pl n' u := let ⟨p, h1, h2⟩ := h; ⟨p, uP_le hn u p h1, h2⟩
theorem Pl.non {n : Nat} : Pl (n + 1) .non := ⟨.none, rfl, rfl, rfl⟩
theorem Pl.int {n : Nat} {i : Int} : Pl (n + 1) (.int i) := ⟨.int i, rfl, rfl, rfl⟩
theorem Pl.str {n : Nat} {x : Str} (h : PyData.strOk x = true) : Pl (n + 1) (.str x) := ⟨.str x, rfl, h, rfl⟩
theorem Pls.nil {n : Nat} : Pls n [] := ⟨[], rfl, rfl, rfl⟩
theorem Pls.cons {n : Nat} {u : U} {us : List U} (h : Pl n u) (t : Pls n us) : Pls n (u :: us) := by
  obtain ⟨p, h1, h2, h3⟩ := h
  obtain ⟨ps, t1, t2, t3⟩ := t
  exact ⟨p :: ps, by simp [optAll, h1, t1], by simp [PyData.canLayAll0, h2, t2], by simp [plainPs, h3, t3]⟩
theorem Pls.all {n : Nat} : ∀ {us : List U}, (∀ u ∈ us, Pl n u) → Pls n us
  | [], _ => Pls.nil
  | u :: us, h => Pls.cons (h u List.mem_cons_self) (Pls.all fun v hv => h v (List.mem_cons_of_mem _ hv))
theorem Pl.tup {n : Nat} {us : List U} (h : Pls n us) : Pl (n + 1) (.tup us) := by
  obtain ⟨ps, h1, h2, h3⟩ := h
  exact ⟨.tuple ps, by simp [uP, h1], h2, h3⟩
theorem Pl.lst {n : Nat} {us : List U} (h : Pls n us) : Pl (n + 1) (.lst us) := by
  obtain ⟨ps, h1, h2, h3⟩ := h
  exact ⟨.list ps, by simp [uP, h1], h2, h3⟩
theorem Pls.ints {n : Nat} (ns : List Int) : Pls (n + 1) (ns.map U.int) := Pls.all fun u hu => by obtain ⟨i, _, rfl⟩ := List.mem_map.mp hu; exact Pl.int
theorem uP_inj : ∀ (f : Nat) (u v : U) (p : PyData), uP f u = some p → uP f v = some p → plainP p = true → u = v
  | 0, _, _, _, h, _, _ => by simp [uP] at h
  | f + 1, u, v, p, hu, hv, hp => by
    have ih := uP_inj f
    have key : ∀ (us vs : List U) (ps : List PyData), optAll (uP f) us = some ps → optAll (uP f) vs = some ps → plainPs ps = true → us = vs := by
      intro us
      induction us with
      | nil => intro vs ps h1 h2 _; cases h1; cases vs with
        | nil => rfl
        | cons v vs => unfold optAll at h2; split at h2 <;> cases h2
      | cons u us ihs =>
        intro vs ps h1 h2 h3
        unfold optAll at h1
        split at h1
        · rename_i a b ea eb
          cases h1
          cases vs with
          | nil => cases h2
          | cons v vs =>
            unfold optAll at h2
            split at h2
            · rename_i c d ec ed
              cases h2
              simp only [plainPs, Bool.and_eq_true] at h3
              rw [ih u v _ ea ec h3.1, ihs vs _ eb ed h3.2]
            · cases h2
        · cases h1
    cases u <;> cases v <;> simp only [uP, Option.map_eq_some_iff, Option.some.injEq, reduceCtorEq] at hu hv
    all_goals first
      | (obtain ⟨a, ha, rfl⟩ := hu; obtain ⟨b, hb, e⟩ := hv; cases e; simp only [plainP] at hp; rw [key _ _ _ ha hb hp]; done)
      | (obtain ⟨a, ha, rfl⟩ := hu; simp [plainP] at hp; done)
      | (obtain ⟨a, ha, rfl⟩ := hu; obtain ⟨b, hb, e⟩ := hv; cases e; done)
      | (obtain ⟨a, ha, rfl⟩ := hu; cases hv; done)
      | (subst hu; obtain ⟨b, hb, e⟩ := hv; cases e; done)
      | (subst hu; cases hv; rfl)
      | (subst hu; cases hv; done)
theorem Pl.eqv {u v : U} {p q : PyData} (h1 : uP 63 u = some p) (h2 : uP 63 v = some q) (h3 : plainP p = true) (h4 : plainP q = true) : PyData.eqv p q = true ↔ u = v := by
  rw [eqv_plain p q h3 h4]
  exact ⟨fun e => by subst e; exact uP_inj 63 u v p h1 h2 h3, fun e => by subst e; rw [h1] at h2; exact Option.some.inj h2⟩
theorem Pl.shaped {n : Nat} {u : U} (h : Pl n u) (hn : n ≤ 63) : ∃ p, uP 63 u = some p ∧ SeqAt.shaped p = true ∧ plainP p = true := by
  obtain ⟨p, h1, h2, h3⟩ := h.mono hn
  refine ⟨p, h1, ?_, h3⟩
  have := uP_depth 63 u p h1
  unfold SeqAt.shaped
  rw [h2, Bool.true_and, decide_eq_true_eq]
  omega
section
variable {X : ExK} {kb : Bool → Prop}
theorem uIn_pl {n m : Nat} {u : U} {us : List U} {b : Bool} (h : Pl n u) (g : Pls m us) (hb : b = true ↔ u ∈ us) (hn : n ≤ 63 := by decide) (hm : m ≤ 62 := by decide) : uIn u us kb = kb b := by
  obtain ⟨p, h1, h2, h3⟩ := h.shaped hn
  obtain ⟨qs, g1, g2, g3⟩ := g
  have g1' := optAll_mono (uP_le hm) g1
  have key : ∀ (us : List U) (qs : List PyData), optAll (uP 62) us = some qs → plainPs qs = true → ((qs.any fun z => PyData.eqv z p) = true ↔ u ∈ us) := by
    intro us
    induction us with
    | nil => intro qs e _; cases e; simp
    | cons v us ih =>
      intro qs e hp
      unfold optAll at e
      split at e
      · rename_i a b ea eb
        cases e
        simp only [plainPs, Bool.and_eq_true] at hp
        rw [List.any_cons, Bool.or_eq_true, ih b eb hp.2, List.mem_cons, Pl.eqv (uP_le (by decide) v a ea) h1 hp.1 h3]
        exact or_congr_left ⟨fun e => e.symm, fun e => e.symm⟩
      · cases e
  unfold uIn
  rw [h1, g1']
  simp only [h2, g2, true_and, and_self]
  congr 1
  rw [Bool.eq_iff_iff, hb]
  exact key us qs g1' g3
end
end HV
namespace HV
open PySem PySem.Spec PyProof.Rows L2 HA
theorem toNat_inj : ∀ (a b : List Char), a.map Char.toNat = b.map Char.toNat → a = b
  | [], [], _ => rfl
  | [], _ :: _, h => by simp at h
  | _ :: _, [], h => by simp at h
  | x :: a, y :: b, h => by
    simp only [List.map_cons, List.cons.injEq] at h
    have hc : x = y := by
      apply Char.ext
      apply UInt32.toNat_inj.mp
      exact h.1
    rw [hc, toNat_inj a b h.2]
theorem ofS_inj (a b : String) : (Str.ofString a = Str.ofString b) = (a = b) := by
  apply propext
  constructor
  · intro h
    rw [Str.ofString_eq_toList, Str.ofString_eq_toList] at h
    have h2 := congrArg (fun s : Str => s.cps.toList) h
    have h3 : a.toList.map Char.toNat = b.toList.map Char.toNat := by simpa using h2
    exact String.toList_injective (toNat_inj _ _ h3)
  · intro h; rw [h]
def oG (o : Option (Option U)) (k : Str → Prop) (_ : Dm k) : Prop := match o with
  | some (some (.glo f)) => k f
  | _ => False
@[simp] theorem oG_some (f : Str) (k : Str → Prop) (d : Dm k) : oG (some (some (.glo f))) k d = k f := nrfl rfl
def oIns (o : Option (Option U)) (k : Str → List Str → List U → Prop) (_ : Dm k) : Prop := match o with
  | some (some (.ins c fs us)) => k c fs us
  | _ => False
@[simp] theorem oIns_some (c : Str) (fs : List Str) (us : List U) (k : Str → List Str → List U → Prop) (d : Dm k) : oIns (some (some (.ins c fs us))) k d = k c fs us := nrfl rfl
section
variable (Γ : UEnv) (X : ExK) (k : U → Prop) (kl : List U → Prop)
@[simp ↓] theorem vCD_str (t : CTab) (z : Str) : vCD t (.str z) X k = oK (t.lookup z) (fun d => k (toU d)) () := by
  unfold vCD oK; simp only; cases t.lookup z <;> rfl
@[simp ↓] theorem vCallL_def (i : Nat) (t : VTab) (pa : VE (List U)) : vCallL i t pa Γ X k = oG Γ[i]? (fun f => oK (t.lookup f) (fun p => pa Γ X fun us => cal p us X k ()) ()) () := by
  unfold vCallL oG oK
  generalize Γ[i]? = o
  match o with
  | none => rfl
  | some none => rfl
  | some (some (.glo f)) => simp only; cases t.lookup f <;> rfl
  | some (some .non) => rfl
  | some (some (.bl _)) => rfl
  | some (some (.int _)) => rfl
  | some (some (.str _)) => rfl
  | some (some (.tup _)) => rfl
  | some (some (.lst _)) => rfl
  | some (some (.dK _ _)) => rfl
  | some (some (.dT _ _)) => rfl
  | some (some (.ins _ _ _)) => rfl
  | some (some (.ref _)) => rfl
  | some (some (.cst _)) => rfl
  | some (some (.xv _ _ _ _)) => rfl
@[simp ↓] theorem vCal2_pick (pa pb : VE (List U)) (p : List U → ExK → (U → Prop) → Prop) (π : List Nat) : vCal2 pa pb (fun us ws => p (pick π us ws)) Γ X k = pa Γ X fun us => pb Γ X fun ws => cal p (pick π us ws) X k () := nrfl rfl
theorem pick_go {α : Type} (i : Nat) (π : List Nat) (us ws : List α) : pick (i :: π) us ws = ((us ++ ws)[i]?).toList ++ pick π us ws := by
  unfold pick
  rw [List.filterMap_cons]
  cases (us ++ ws)[i]? <;> rfl
@[simp ↓] theorem vEnum_tup (us : List U) : vEnum (.tup us) X kl = kl (numU 0 us) := nrfl rfl
@[simp ↓] theorem vEnum_lst (us : List U) : vEnum (.lst us) X kl = kl (numU 0 us) := nrfl rfl
@[simp ↓] theorem vMs_def (pm : VE U) (pa : VE (List U)) (f : U → List U → ExK → (U → Prop) → Prop) : vMs pm pa f Γ X k = pm Γ X fun u => (∃ x, u = .str x) ∧ pa Γ X fun us => f u us X k := nrfl rfl
@[simp ↓] theorem vIndexS_def (a b : Str) : vIndexS (.str a) [.str b] X k = oK (strIx a b) (fun i => k (.int i)) () := by
  unfold vIndexS oK; simp only; cases strIx a b <;> rfl
@[simp ↓] theorem vXf_def (cs : List Str) (c f : Str) (b : Bool) (ks : List Str) (us : List U) : vXf cs c f b (.xv 0 0 ks us) X k = ((b = true ∧ c ∈ cs) ∧ oK ((ks.zip us).lookup f) (fun u => k u) ()) := by
  unfold vXf oK; simp only; cases (ks.zip us).lookup f <;> rfl
theorem vXis_glo (tab : XTab) (c : Str) (b : Bool) (ks : List Str) (es : List U) (C : Str) : vXis tab c b [.xv 0 0 ks es, .glo C] X k = ((b = true → ks ≠ []) ∧ oK (xLook tab c (.glo C)) (fun r => k (.bl r)) ()) := by
  unfold vXis oK; simp only [uD]; cases xLook tab c (.glo C) <;> rfl
variable (nx : UEnv → Prop) (rt : U → Prop) (bk ct : UEnv → Prop) (ex : Str → EF → UEnv → Prop)
@[simp ↓] theorem vRaise_def (x f : Str) (pa : VE (List U)) : vRaise x f pa Γ ⟨nx, rt, bk, ct, ex⟩ = pa Γ (fun a g => ex a g Γ) fun us => us.length = 1 ∧ ex x (some ([f], us)) Γ := nrfl rfl
@[simp ↓] theorem vTry_def (ow : List Nat) (t : STab) (p : VS) (l : List VHnd) : vTry ow t p l Γ ⟨nx, rt, bk, ct, ex⟩ = p Γ ⟨nx, rt, bk, ct, fun c f Γ' => (ow ≠ [] → flatF f = true) ∧ vHnd t l c f Γ' ⟨nx, rt, bk, ct, ex⟩⟩ := nrfl rfl
theorem vHnd_nil (t : STab) (c : Str) (f : EF) : vHnd t [] c f Γ ⟨nx, rt, bk, ct, ex⟩ = ex c f Γ := nrfl rfl
@[simp ↓] theorem vFldS_def (C : List (Str × List Str)) (own : List Nat) (i : Nat) (f : Str) (pv : VE U) : vFldS C own i f pv Γ ⟨nx, rt, bk, ct, ex⟩ = pv (eraseU own Γ) (fun a g => ex a g Γ) fun v => oIns Γ[i]? (fun c fs us => (hasF C c f = true ∧ fs.length < 1000) ∧ nxt nx (Γ.set i (some (.ins c (putK f fs) (putV f v fs us)))) ()) () := by
  unfold vFldS oIns nxt
  rfl
@[simp ↓] theorem vMkI_def (C : Str) (n ar : Nat) (pb : VS) (us : List U) : vMkI C n ar pb us X k = (us.length + 1 = ar ∧ nxt (fun Γ => pb Γ ⟨fun Γ => oV Γ[0]? k (), fun _ => False, fun _ => False, fun _ => False, fun a f _ => X a f⟩) (some (.ins C [] []) :: (us.map some ++ List.replicate (n - ar) none)) ()) := nrfl rfl
end
end HV
namespace HV
open PySem PySem.Spec PyProof.Rows L2 HA
@[simp] theorem tUnl_def (n : Nat) (r : List U → Option (List (Nat × U))) (us : List U) : tUnl n r (.lst us) = if us.length = n then r us else none := nrfl rfl
@[simp] theorem tStarL_def (n : Nat) (r : List U → Option (List (Nat × U))) (us : List U) : tStarL n r (.lst us) = if n ≤ us.length then r (us.take n ++ [.lst (us.drop n)]) else none := nrfl rfl
@[simp ↓] theorem vStrOf_def (z : Str) (X : ExK) (kl : List U → Prop) : vStrOf (.str z) X kl = kl (charsU z) := nrfl rfl
section
variable (Γ : UEnv) (X : ExK) (k : U → Prop) (kl : List U → Prop) (kb : Bool → Prop)
variable (nx : UEnv → Prop) (rt : U → Prop) (bk ct : UEnv → Prop) (ex : Str → EF → UEnv → Prop)
theorem forL_nil (vt : VTM) (body : VS) (d) : forL vt body [] Γ ⟨nx, rt, bk, ct, ex⟩ d = nx Γ := nrfl rfl
theorem forL_cons (vt : VTM) (body : VS) (u : U) (us : List U) (d) : forL vt body (u :: us) Γ ⟨nx, rt, bk, ct, ex⟩ d = oK (vt u) (fun bs => nxt (fun Γ => body Γ ⟨fun Γ' => forL vt body us Γ' ⟨nx, rt, bk, ct, ex⟩ (), rt, nx, fun Γ' => forL vt body us Γ' ⟨nx, rt, bk, ct, ex⟩ (), ex⟩) (setU Γ bs) ()) () := by
  unfold forL
  rw [vForL]
  unfold oK nxt
  cases vt u <;> rfl
theorem lcL_nil (vt : VTM) (pt : VE Bool) (pe : VE U) (d) : lcL vt pt pe Γ [] kl d = kl [] := nrfl rfl
theorem lcL_cons (vt : VTM) (pt : VE Bool) (pe : VE U) (u : U) (us : List U) (d) : lcL vt pt pe Γ (u :: us) kl d = oK (vt u) (fun bs => nxt (fun Γ1 => pt Γ1 XF fun t => if t = true then pe Γ1 XF fun y => lcL vt pt pe Γ us (fun ys => kl (y :: ys)) () else lcL vt pt pe Γ us kl ()) (setU Γ bs) ()) () := by
  unfold lcL
  rw [vLcL]
  unfold oK nxt
  cases vt u <;> rfl
theorem strOk_lit (s : String) : PyData.strOk (Str.ofString s) = true := by
  unfold PyData.strOk
  rw [Str.ofString_eq_toList, ← Array.all_toList, List.all_eq_true]
  intro c hc
  simp only [List.mem_map] at hc
  obtain ⟨ch, _, rfl⟩ := hc
  rw [decide_eq_true_eq]
  have := ch.valid
  unfold UInt32.isValidChar Nat.isValidChar at this
  show ch.val.toNat < _
  omega
theorem Pls.strs {n : Nat} (ns : List String) : Pls (n + 1) (ns.map fun s => U.str (Str.ofString s)) := Pls.all fun u hu => by obtain ⟨i, _, rfl⟩ := List.mem_map.mp hu; exact Pl.str (strOk_lit i)
theorem vIn_strs (a : String) (ns : List String) : vIn (.str (Str.ofString a)) (.tup (ns.map fun s => U.str (Str.ofString s))) X kb = kb (decide (a ∈ ns)) := by
  rw [vIn_tup]
  refine uIn_pl (Pl.str (n := 0) (strOk_lit a)) (Pls.strs (n := 0) ns) ?_
  simp only [decide_eq_true_eq, List.mem_map, U.str.injEq, ofS_inj]
  exact ⟨fun h => ⟨a, h, rfl⟩, fun ⟨s, h, e⟩ => e ▸ h⟩
theorem vIn_s2 (a b c : String) : vIn (.str (Str.ofString a)) (.tup [.str (Str.ofString b), .str (Str.ofString c)]) X kb = kb (decide (a ∈ [b, c])) := vIn_strs X kb a [b, c]
theorem vIx_str (z : Str) (i : Int) : vIx (.str z) (.int i) X k = (z.length ≤ line ∧ oK (ixD z.cps.toList i) (fun c => k (.str ⟨#[c]⟩)) ()) := by
  unfold vIx oK; simp only; cases ixD z.cps.toList i <;> rfl
end
end HV
namespace HV
open PySem PySem.Spec PyProof.Rows L2 HA
inductive Lp (σ : Type) where
  | nx (s : σ)
  | rt (u : U)
  | bk (s : σ)
  | ex (c : Str) (f : EF)
def Lp.go {σ : Type} (E : σ → UEnv) (nx bk : UEnv → Prop) (rt : U → Prop) (Xr : Str → EF → Prop) : Lp σ → Prop
  | .nx s => nx (E s)
  | .rt u => rt u
  | .bk s => bk (E s)
  | .ex c f => Xr c f
def foldLp {α σ : Type} (st : σ → α → Lp σ) : List α → σ → Lp σ
  | [], s => .nx s
  | x :: xs, s => match st s x with
    | .nx s' => foldLp st xs s'
    | .rt u => .rt u
    | .bk s' => .bk s'
    | .ex c f => .ex c f
section
variable {α σ : Type} {vt : VTM} {body : VS} {rt : U → Prop}
end
end HV
namespace HV
open PySem PySem.Spec PyProof.Rows L2 HA
section
variable (Γ : UEnv) (X : ExK) (k : U → Prop) (kl : List U → Prop)
@[simp ↓] theorem vExtend_def (xs zs : List U) (f : U → U → Prop) : vExtend (.lst xs) [.lst zs] f = (xs.length + zs.length ≤ line ∧ f .non (.lst (xs ++ zs))) := nrfl rfl
@[simp ↓] theorem vSplit_def (a b : Str) : vSplit (.str a) [.str b] X k = ((b.length ≠ 0 ∧ a.length + 2 ≤ line) ∧ k (.lst ((Txt.split a b).map U.str))) := nrfl rfl
@[simp ↓] theorem vUpper_def (a : Str) : vUpper (.str a) [] X k = (a.length ≤ 5592405 ∧ k (.str (Txt.upper a))) := nrfl rfl
@[simp ↓] theorem vJoin_lst (a : Str) (us : List U) : vJoin (.str a) [.lst us] X k = oK (optAll uStr us) (fun ys => (ys.map (·.length)).sum + ys.length * a.length ≤ 16777216 ∧ k (.str (Txt.join a ys))) () := by
  unfold vJoin oK; simp only [uIts2, Option.bind_some]; cases optAll uStr us <;> rfl
@[simp ↓] theorem vJoin_tup (a : Str) (us : List U) : vJoin (.str a) [.tup us] X k = oK (optAll uStr us) (fun ys => (ys.map (·.length)).sum + ys.length * a.length ≤ 16777216 ∧ k (.str (Txt.join a ys))) () := by
  unfold vJoin oK; simp only [uIts2, Option.bind_some]; cases optAll uStr us <;> rfl
theorem strs_optAll (ns : List Str) : optAll uStr (ns.map U.str) = some ns := by
  induction ns with
  | nil => rfl
  | cons n ns ih => simp [optAll, uStr, ih]
@[simp ↓] theorem vDGet1_def (pm pk : VE U) : vDGet1 pm pk Γ X k = pm Γ X fun u => (∃ ks us, u = .dK ks us) ∧ pk Γ X fun kd => vDGet u kd .non k := nrfl rfl
@[simp ↓] theorem vDGet2_def (pm pk px : VE U) : vDGet2 pm pk px Γ X k = pm Γ X fun u => (∃ ks us, u = .dK ks us) ∧ pk Γ X fun kd => px Γ X fun z => vDGet u kd z k := nrfl rfl
@[simp] theorem ex_dK (ks : List Key) (us : List U) : (∃ ks' us', U.dK ks us = .dK ks' us') = True := by simp
@[simp ↓] theorem vDGet_def (ks : List Key) (us : List U) (kd z : U) : vDGet (.dK ks us) kd z k = oK (uKey kd) (fun kk => k ((uVal ks us kk).getD z)) () := by
  unfold vDGet oK; simp only; cases uKey kd <;> rfl
end
end HV
namespace HV
open PySem PySem.Spec PyProof.Rows L2 HA
def o3 (us : List U) (k : U → U → U → Prop) (_ : Dm k) : Prop := match us with
  | [x, y, z] => k x y z
  | _ => False
@[simp] theorem o3_def (x y z : U) (k : U → U → U → Prop) (d : Dm k) : o3 [x, y, z] k d = k x y z := nrfl rfl
section
variable (Γ : UEnv) (nx : UEnv → Prop) (rt : U → Prop) (bk ct : UEnv → Prop) (ex : Str → EF → UEnv → Prop)
@[simp ↓] theorem vPar3_def (own : List Nat) (i j l : Nat) (p : VE (List U)) : vPar3 own i j l p Γ ⟨nx, rt, bk, ct, ex⟩ = p (eraseU own Γ) (fun a f => ex a f Γ) fun us => o3 us (fun x y z => nxt nx (((Γ.set i (some x)).set j (some y)).set l (some z)) ()) () := nrfl rfl
@[simp ↓] theorem vWh_def (pc : VE Bool) (body : VS) (n : Nat) : vWh pc body n Γ ⟨nx, rt, bk, ct, ex⟩ = whL pc body n Γ ⟨nx, rt, bk, ct, ex⟩ () := nrfl rfl
end
end HV
namespace HV
open PySem PySem.Spec PyProof.Rows L2 HA
def kG (o : Option D) (d : U) : U := match o with
  | some e => toU e
  | none => d
@[simp] theorem kG_some (e : D) (d : U) : kG (some e) d = toU e := nrfl rfl
@[simp] theorem kG_none (d : U) : kG none d = d := nrfl rfl
@[simp ↓] theorem vKGet_str (t : CTab) (z : Str) (d : U) (X : ExK) (k : U → Prop) : vKGet t (.str z) d X k = k (kG (t.lookup z) d) := by
  show (match t.lookup z with | some e => k (toU e) | none => k d) = _
  cases t.lookup z <;> rfl
end HV
namespace HV
open PySem PySem.Spec PyProof.Rows L2 HA
abbrev Sto := Nat → Option U
abbrev MP := Sto → Prop
abbrev ExS := Str → EF → MP
abbrev VZ (α : Type) := UEnv → ExS → (α → MP) → MP
def okS (σ : Sto) : Nat → Prop := fun n => 3 ≤ n ∧ σ n = none
def updS (σ : Sto) (n : Nat) (c : U) : Sto := fun m => if m = n then some c else σ m
structure StoR (σ : Sto) (ah : AH) : Prop where
  at' : ∀ n c, σ n = some c → 3 ≤ n ∧ ∃ o, ah[n]? = some o ∧ OR (okS σ) ah c o
structure GrowS (σ : Sto) (ah : AH) (σ' : Sto) (ah' : AH) : Prop where
  len : ah.length ≤ ah'.length
  same : ∀ n, 3 ≤ n → n < ah.length → σ n = none → ah'[n]? = ah[n]?
  dom : ∀ n, n < ah.length → σ n = none → σ' n = none
section
variable {σ σ' σ2 : Sto} {ah ah' ah2 : AH}
theorem GrowS.refl : GrowS σ ah σ ah := ⟨Nat.le_refl _, fun _ _ _ _ => rfl, fun _ _ h => h⟩
theorem GrowS.trans (h : GrowS σ ah σ' ah') (k : GrowS σ' ah' σ2 ah2) : GrowS σ ah σ2 ah2 :=
  ⟨Nat.le_trans h.len k.len, fun n h3 hn e => (k.same n h3 (Nat.lt_of_lt_of_le hn h.len) (h.dom n hn e)).trans (h.same n h3 hn e), fun n hn e => k.dom n (Nat.lt_of_lt_of_le hn h.len) (h.dom n hn e)⟩
theorem Grow.toS (g : Grow ah ah') : GrowS σ ah σ ah' := ⟨g.len, fun n h3 hn _ => g.same n h3 hn, fun _ _ e => e⟩
theorem StoR.lt (h : StoR σ ah) {n : Nat} {c : U} (e : σ n = some c) : n < ah.length := by
  obtain ⟨_, o, e2, _⟩ := h.at' n c e
  exact (List.getElem?_eq_some_iff.mp e2).1
theorem StoR.okf (h : StoR σ ah) (l3 : 3 ≤ ah.length) : OkF (okS σ) ah := ⟨fun n h => h.1, fun n hn => ⟨Nat.le_trans l3 hn, by
  cases e : σ n with
  | none => rfl
  | some c => exact absurd (h.lt e) (by omega)⟩⟩
theorem growS_ok (g : GrowS σ ah σ' ah') : ∀ n, (okS σ n ∧ n < ah.length) → okS σ' n := fun n h => ⟨h.1.1, g.dom n h.2 h.1.2⟩
theorem growS_sta (g : GrowS σ ah σ' ah') : Sta (fun n => okS σ n ∧ n < ah.length) ah ah' := fun n o h e => by rw [g.same n h.1.1 h.2 h.1.2]; exact e
theorem R.growS {u : U} {d : D} (h : R (okS σ) ah u d) (g : GrowS σ ah σ' ah') : R (okS σ') ah' u d := R.mono (growS_ok g) (growS_sta g) _ _ (R.inb _ _ h)
theorem Rs.growS {u : List U} {d : List D} (h : Rs (okS σ) ah u d) (g : GrowS σ ah σ' ah') : Rs (okS σ') ah' u d := Rs.mono (growS_ok g) (growS_sta g) _ _ (Rs.inb _ _ h)
theorem OR.growS {u : U} {o : AObj} (h : OR (okS σ) ah u o) (g : GrowS σ ah σ' ah') : OR (okS σ') ah' u o := (OR.inb h).mono (growS_ok g) (growS_sta g)
theorem RX.growS {f : EF} {fs : Option (List (Str × D))} (h : RX (okS σ) ah f fs) (g : GrowS σ ah σ' ah') : RX (okS σ') ah' f fs := by
  match f, h with
  | none, h => exact h
  | some (ks, us), ⟨kvs, e, z, r⟩ => exact ⟨kvs, e, z, Rs.growS r g⟩
theorem EnvR.growS {Γ : UEnv} {env : HA.Env} (h : EnvR (okS σ) ah Γ env) (g : GrowS σ ah σ' ah') : EnvR (okS σ') ah' Γ env :=
  ⟨h.len, fun i u e => let ⟨d, e1, r⟩ := h.at' i u e; ⟨d, e1, r.growS g⟩⟩
theorem StoR.grow (h : StoR σ ah) (g : Grow ah ah') : StoR σ ah' := ⟨fun n c e => by
  obtain ⟨h3, o, e2, r⟩ := h.at' n c e
  exact ⟨h3, o, by rw [g.same n h3 (h.lt e)]; exact e2, r.growS g.toS⟩⟩
end
class Inb {α β : Type} (Q : Rl α β) : Prop where
  inb : ∀ {ok : Nat → Prop} {ah : AH} {a : α} {b : β}, Q.r ok ah a b → Q.r (fun m => ok m ∧ m < ah.length) ah a b
instance : Inb RU := ⟨fun h => R.inb _ _ h⟩
instance : Inb RUs := ⟨fun h => Rs.inb _ _ h⟩
instance (α : Type) : Inb (REq α) := ⟨fun h => h⟩
instance : Inb RIt := ⟨fun h => ⟨Rs.inb _ _ h.1, fun p hp => ⟨⟨(h.2 p hp).1, (List.getElem?_eq_some_iff.mp (h.2 p hp).2).1⟩, (h.2 p hp).2⟩⟩⟩
theorem Rl.growS {α β : Type} (Q : Rl α β) [Inb Q] {σ σ' : Sto} {ah ah' : AH} {a : α} {b : β} (h : Q.r (okS σ) ah a b) (g : GrowS σ ah σ' ah') : Q.r (okS σ') ah' a b := Q.mono (growS_ok g) (growS_sta g) (Inb.inb h)
section
variable (K : Dks) {α β γ δ α' β' γ' δ' : Type}
def PRS (σ : Sto) (ah : AH) (N : Nat) (Q : Rl α β) (X : ExS) (k : α → MP) : Res β → Prop
  | .ok b ah' => ∃ a σ', k a σ' ∧ Q.r (okS σ') ah' a b ∧ GrowS σ ah σ' ah' ∧ StoR σ' ah' ∧ K.at' N ah'
  | .exn c fs ah' => ∃ f σ', X c f σ' ∧ RX (okS σ') ah' f fs ∧ GrowS σ ah σ' ah' ∧ StoR σ' ah' ∧ K.at' N ah'
  | .stuck => False
variable {K}
theorem PRS.le {σ : Sto} {ah : AH} {N M : Nat} {Q : Rl α β} {X : ExS} {k : α → MP} {r : Res β} (h : PRS K σ ah N Q X k r) (hM : N ≤ M) : PRS K σ ah M Q X k r := by
  revert h
  unfold PRS
  split
  · exact fun ⟨a, s, h1, h2, h3, h4, h5⟩ => ⟨a, s, h1, h2, h3, h4, K.mono h5 hM⟩
  · exact fun ⟨a, s, h1, h2, h3, h4, h5⟩ => ⟨a, s, h1, h2, h3, h4, K.mono h5 hM⟩
  · exact fun h => h
theorem PRS.after {σ σ1 : Sto} {ah ah1 : AH} {N : Nat} {Q : Rl α β} {X : ExS} {k : α → MP} {r : Res β} (h : PRS K σ1 ah1 N Q X k r) (g : GrowS σ ah σ1 ah1) : PRS K σ ah N Q X k r := by
  revert h
  unfold PRS
  split
  · exact fun ⟨a, s, h1, h2, h3, h4, h5⟩ => ⟨a, s, h1, h2, g.trans h3, h4, h5⟩
  · exact fun ⟨a, s, h1, h2, h3, h4, h5⟩ => ⟨a, s, h1, h2, g.trans h3, h4, h5⟩
  · exact fun h => h
theorem PRS.bind {σ : Sto} {ah : AH} {N M : Nat} {Q : Rl α β} {Q' : Rl γ δ} {X : ExS} {k : α → MP} {k' : γ → MP} {r : Res β} {f : β → AH → Res δ}
    (h : PRS K σ ah N Q X k r) (hN : N ≤ M) (hf : ∀ a b σ' ah', k a σ' → Q.r (okS σ') ah' a b → GrowS σ ah σ' ah' → StoR σ' ah' → K.at' N ah' → PRS K σ' ah' M Q' X k' (f b ah')) : PRS K σ ah M Q' X k' (r.bind f) := by
  cases r with
  | ok b ah' =>
    obtain ⟨a, s, ka, q, g, st, kk⟩ := h
    exact (hf a b s ah' ka q g st kk).after g
  | exn c fs ah' =>
    obtain ⟨f, s, x, q, g, st, kk⟩ := h
    exact ⟨f, s, x, q, g, st, K.mono kk hN⟩
  | stuck => exact h
theorem PRS.okI {σ : Sto} {ah : AH} {N : Nat} {Q : Rl α β} {X : ExS} {k : α → MP} {a : α} {b : β} (hk : k a σ) (q : Q.r (okS σ) ah a b) (st : StoR σ ah) (kk : K.at' N ah) : PRS K σ ah N Q X k (.ok b ah) := ⟨a, σ, hk, q, GrowS.refl, st, kk⟩
theorem PR.toS {σ : Sto} {ah : AH} {N : Nat} {Q : Rl α β} {X : ExS} {k : α → MP} {r : Res β} (st : StoR σ ah) (h : PR K (okS σ) ah N Q (fun c f => X c f σ) (fun a => k a σ) r) : PRS K σ ah N Q X k r := by
  cases r with
  | ok b ah' => obtain ⟨a, ka, q, g, kk⟩ := h; exact ⟨a, σ, ka, q, g.toS, st.grow g, kk⟩
  | exn c fs ah' => obtain ⟨f, x, q, g, kk⟩ := h; exact ⟨f, σ, x, q, g.toS, st.grow g, kk⟩
  | stuck => exact h
variable (K)
structure SE (Q : Rl α β) (c : Nat) (m : EM β) (p : VZ α) : Prop where
  to : ∀ {Γ : UEnv} {env : HA.Env} {σ : Sto} {ah : AH} {N : Nat} {X : ExS} {k : α → MP}, EnvR (okS σ) ah Γ env → StoR σ ah → K.at' N ah → N + cb c ≤ LIM → p Γ X k σ → PRS K σ ah (N + cb c) Q X k (m env ah)
structure SO1 (Q : Rl α β) (Q' : Rl γ δ) (c : Nat) (f : β → AH → Res δ) (p : α → ExS → (γ → MP) → MP) : Prop where
  to : ∀ {σ : Sto} {ah : AH} {N : Nat} {X : ExS} {k : γ → MP} {a : α} {b : β}, Q.r (okS σ) ah a b → StoR σ ah → K.at' N ah → N + cb c ≤ LIM → p a X k σ → PRS K σ ah (N + cb c) Q' X k (f b ah)
structure SO2 (Q : Rl α β) (Q1 : Rl α' β') (Q' : Rl γ δ) (f : β → β' → AH → Res δ) (p : α → α' → ExS → (γ → MP) → MP) : Prop where
  to : ∀ {σ : Sto} {ah : AH} {N : Nat} {X : ExS} {k : γ → MP} {a : α} {b : β} {a' : α'} {b' : β'}, Q.r (okS σ) ah a b → Q1.r (okS σ) ah a' b' → StoR σ ah → K.at' N ah → p a a' X k σ → PRS K σ ah N Q' X k (f b b' ah)
structure SO3 (Q : Rl α β) (Q1 : Rl α' β') (Q2 : Rl γ' δ') (Q' : Rl γ δ) (f : β → β' → δ' → AH → Res δ) (p : α → α' → γ' → ExS → (γ → MP) → MP) : Prop where
  to : ∀ {σ : Sto} {ah : AH} {N : Nat} {X : ExS} {k : γ → MP} {a : α} {b : β} {a' : α'} {b' : β'} {a2 : γ'} {b2 : δ'}, Q.r (okS σ) ah a b → Q1.r (okS σ) ah a' b' → Q2.r (okS σ) ah a2 b2 → StoR σ ah → K.at' N ah → p a a' a2 X k σ → PRS K σ ah N Q' X k (f b b' b2 ah)
def zE (p : VE α) : VZ α := fun Γ X k σ => p Γ (fun c f => X c f σ) (fun a => k a σ)
def zO1 (p : α → ExK → (γ → Prop) → Prop) : α → ExS → (γ → MP) → MP := fun a X k σ => p a (fun c f => X c f σ) (fun a => k a σ)
def zO2 (p : α → α' → ExK → (γ → Prop) → Prop) : α → α' → ExS → (γ → MP) → MP := fun a b X k σ => p a b (fun c f => X c f σ) (fun a => k a σ)
def zO3 (p : α → α' → γ' → ExK → (γ → Prop) → Prop) : α → α' → γ' → ExS → (γ → MP) → MP := fun a b c X k σ => p a b c (fun c f => X c f σ) (fun a => k a σ)
variable {K}
theorem se_le {Q : Rl α β} {c : Nat} {m : EM β} {p : VE α} (h : LE K Q c m p) : SE K Q c m (zE p) := ⟨fun {Γ env σ ah N X k} e st kk l x => PR.toS st (h.to (st.okf (K.len kk)) e kk l x)⟩
theorem so_1 {Q : Rl α β} {Q' : Rl γ δ} {c : Nat} {f : β → AH → Res δ} {p : α → ExK → (γ → Prop) → Prop} (h : LO1 K Q Q' c f p) : SO1 K Q Q' c f (zO1 p) := ⟨fun {σ ah N X k a b} q st kk l x => PR.toS st (h.to (st.okf (K.len kk)) q kk l x)⟩
theorem so_2 {Q : Rl α β} {Q1 : Rl α' β'} {Q' : Rl γ δ} {f : β → β' → AH → Res δ} {p : α → α' → ExK → (γ → Prop) → Prop} (h : LO2 K Q Q1 Q' f p) : SO2 K Q Q1 Q' f (zO2 p) := ⟨fun {σ ah N X k a b a' b'} q q1 st kk x => PR.toS st (h.to (st.okf (K.len kk)) q q1 kk x)⟩
def z1 (pa : VZ α) (f : α → ExS → (γ → MP) → MP) : VZ γ := fun Γ X k => pa Γ X fun a => f a X k
def z2 (pa : VZ α) (pb : VZ α') (f : α → α' → ExS → (γ → MP) → MP) : VZ γ := fun Γ X k => pa Γ X fun a => pb Γ X fun b => f a b X k
def z3 (pa : VZ α) (pb : VZ α') (pc : VZ γ') (f : α → α' → γ' → ExS → (γ → MP) → MP) : VZ γ := fun Γ X k => pa Γ X fun a => pb Γ X fun b => pc Γ X fun c => f a b c X k
theorem se_1 {Q : Rl α β} {Q' : Rl γ δ} {c c' : Nat} {m : EM β} {p : VZ α} {f : β → AH → Res δ} {pf : α → ExS → (γ → MP) → MP} (h : SE K Q c m p) (hf : SO1 K Q Q' c' f pf) : SE K Q' (sq c c') (e1 m f) (z1 p pf) := ⟨fun {Γ env σ ah N X k} e st kk l x => by
  have s := cb_sq c c'
  refine PRS.bind (h.to e st kk (by omega) x) (Nat.add_le_add_left (cb_left c c') N) fun a b σ' ah' ka q g st' k2 => ?_
  exact (hf.to q st' k2 (by omega) ka).le (by omega)⟩
theorem se_2 {Q : Rl α β} {Q1 : Rl α' β'} {Q' : Rl γ δ} [Inb Q] {c c' : Nat} {m : EM β} {p : VZ α} {m' : EM β'} {p' : VZ α'} {f : β → β' → AH → Res δ} {pf : α → α' → ExS → (γ → MP) → MP} (h : SE K Q c m p) (h' : SE K Q1 c' m' p') (hf : SO2 K Q Q1 Q' f pf) : SE K Q' (sq c c') (e2 m m' f) (z2 p p' pf) := ⟨fun {Γ env σ ah N X k} e st kk l x => by
  have s := cb_sq c c'
  refine PRS.bind (h.to e st kk (by omega) x) (Nat.add_le_add_left (cb_left c c') N) fun a b σ' ah' ka q g st' k2 => ?_
  refine PRS.bind ((h'.to (e.growS g) st' k2 (by omega) ka).le (M := N + cb (sq c c')) (by omega)) (Nat.le_refl _) fun a' b' σ2 ah2 ka2 q2 g2 st2 k3 => ?_
  exact hf.to (Q.growS q g2) q2 st2 k3 ka2⟩
theorem SE.weak {Q : Rl α β} {c c' : Nat} {m : EM β} {p : VZ α} (h : SE K Q c m p) (hc : cb c ≤ cb c') : SE K Q c' m p := ⟨fun e st kk l x => (h.to e st kk (by omega) x).le (by omega)⟩
def zaNil : VZ (List U) := fun _ _ k => k []
def zaCons (p : VZ U) (r : VZ (List U)) : VZ (List U) := z2 p r fun u us _ k => k (u :: us)
theorem se_anil : SE K RUs 0 aNil zaNil := ⟨fun {Γ env σ ah N X k} e st kk l x => .okI x (show Rs (okS σ) ah [] [] from Rs.nil) st kk⟩
theorem se_acons {c c' : Nat} {m : EM D} {p : VZ U} {r : EM (List D)} {pr : VZ (List U)} (h : SE K RU c m p) (h' : SE K RUs c' r pr) : SE K RUs (sq c c') (aCons m r) (zaCons p pr) :=
  se_2 (f := fun (x : D) (xs : List D) ah => Res.ok (x :: xs) ah) h h' ⟨fun q q' st kk x => .okI x (Rs.cons q q') st kk⟩
def zTup (p : VZ (List U)) : VZ U := z1 p fun us _ k σ => us.length ≤ line ∧ k (.tup us) σ
theorem se_tup {c : Nat} {m : EM (List D)} {p : VZ (List U)} (h : SE K RUs c m p) : SE K RU (sq c 0) (eTup m) (zTup p) := se_1 h ⟨fun {σ ah N X k a b} q st kk l x => by
  have q' : Rs (okS σ) ah a b := q
  rw [if_pos (by rw [← q'.len]; exact x.1)]
  exact .okI x.2 (show R (okS σ) ah (.tup a) (.tup b) by simp only [R]; exact ⟨b, rfl, q⟩) st kk⟩
def zLst (p : VZ (List U)) : VZ (List U) := z1 p fun us _ k σ => us.length ≤ line ∧ k us σ
def zNew (p : VZ (List U)) : VZ U := z1 p fun us _ k => k (.lst us)
theorem PRS.newI {σ : Sto} {ah x : AH} {N : Nat} {Q : Rl α β} {X : ExS} {k : α → MP} {a : α} {b : β} (hk : k a σ) (q : Q.r (okS σ) (ah ++ x) a b) (st : StoR σ ah) (kk : K.at' N ah) : PRS K σ ah N Q X k (.ok b (ah ++ x)) := ⟨a, σ, hk, q, Grow.app.toS, st.grow Grow.app, K.app x kk⟩
theorem updS_same {σ : Sto} {n : Nat} {c : U} : updS σ n c n = some c := by simp [updS]
theorem updS_ne {σ : Sto} {n m : Nat} {c : U} (h : m ≠ n) : updS σ n c m = σ m := by simp [updS, h]
theorem StoR.new {σ : Sto} {ah ah' : AH} {c : U} {o : AObj} {n : Nat} (st : StoR σ ah) (l3 : 3 ≤ ah.length) (g : Grow ah ah') (hn : ah.length ≤ n) (e : ah'[n]? = some o) (r : OR (fun m => okS σ m ∧ m ≠ n) ah' c o) : σ n = none ∧ 3 ≤ n ∧ StoR (updS σ n c) ah' ∧ GrowS σ ah (updS σ n c) ah' := by
  have fr : σ n = none := by
    cases e : σ n with
    | none => rfl
    | some c => exact absurd (st.lt e) (by omega)
  have gs : GrowS σ ah (updS σ n c) ah' := ⟨g.len, fun m h3 hm _ => g.same m h3 hm, fun m hm e => by rw [updS_ne (by omega)]; exact e⟩
  refine ⟨fr, by omega, ⟨fun m c' em => ?_⟩, gs⟩
  by_cases z : m = n
  · subst z
    rw [updS_same] at em
    cases em
    refine ⟨by omega, o, e, r.mono (fun k hk => ⟨hk.1.1, by rw [updS_ne hk.2]; exact hk.1.2⟩) Sta.refl⟩
  · rw [updS_ne z] at em
    obtain ⟨h3, o', e2, r'⟩ := st.at' m c' em
    exact ⟨h3, o', by rw [g.same m h3 (st.lt em)]; exact e2, r'.growS gs⟩
def zNewS (p : VZ (List U)) : VZ U := z1 p fun us _ k σ => ∀ n, 3 ≤ n → σ n = none → k (.ref n) (updS σ n (.lst us))
theorem se_newS {c : Nat} {m : EM (List D)} {p : VZ (List U)} (h : SE K RUs c m p) : SE K RU (sq c 0) (eNew m) (zNewS p) := se_1 h ⟨fun {σ ah N X k a b} q st kk l x => by
  have l3 := K.len kk
  have o := st.okf l3
  have q' : Rs (okS σ) ah a b := q
  have nl : OR (fun m => okS σ m ∧ m ≠ ah.length) (ah ++ [.lst b]) (.lst a) (.lst b) := by
    show Rs _ _ a b
    have := Rs.inb _ _ q'
    exact Rs.mono (fun m h => ⟨h.1, by have := h.2; omega⟩) (fun m o h e => by rw [List.getElem?_append_left h.2]; exact e) _ _ this
  obtain ⟨f1, f2, f3, f4⟩ := st.new l3 (Grow.app (x := [.lst b])) (Nat.le_refl _) (by simp) nl
  exact ⟨_, _, x _ f2 f1, by simp only [RU, R], f4, f3, K.app _ kk⟩⟩
def zB (p : VZ Bool) : VZ U := z1 p fun b _ k => k (.bl b)
theorem PRS.ite {σ : Sto} {ah : AH} {N : Nat} {Q : Rl α β} {X : ExS} {k : α → MP} {a b : Res β} {t : Bool} {x y : MP} (h : (if t = true then x else y) σ) (ha : x σ → PRS K σ ah N Q X k a) (hb : y σ → PRS K σ ah N Q X k b) : PRS K σ ah N Q X k (if t = true then a else b) := by
  cases t with
  | true => exact ha h
  | false => exact hb h
def zAnd (a b : VZ Bool) : VZ Bool := fun Γ X k => a Γ X fun t => if t = true then b Γ X k else k false
def zOr (a b : VZ Bool) : VZ Bool := fun Γ X k => a Γ X fun t => if t = true then k true else b Γ X k
def zNot (a : VZ Bool) : VZ Bool := z1 a fun t _ k => k (!t)
end
end HV
namespace HV
open PySem PySem.Spec PyProof.Rows L2 HA
section
variable {K : Dks} {α β γ δ α' β' γ' δ' : Type}
def zIf (c : VZ Bool) (a b : VZ α) : VZ α := fun Γ X k => c Γ X fun t => if t = true then a Γ X k else b Γ X k
def zTruth : U → ExS → (Bool → MP) → MP := zO1 vTruth
def zEAnd (a b : VZ U) : VZ U := fun Γ X k => a Γ X fun u => zTruth u X fun t => if t = true then b Γ X k else k u
def zEOr (a b : VZ U) : VZ U := fun Γ X k => a Γ X fun u => zTruth u X fun t => if t = true then k u else b Γ X k
def zENot (a : VZ U) : VZ U := z1 a fun u X k => zTruth u X fun t => k (.bl (!t))
abbrev Z1o (γ : Type) := U → ExS → (γ → MP) → MP
abbrev Z2o (γ : Type) := U → U → ExS → (γ → MP) → MP
def zChain (a b c : VZ U) (f g : Z2o Bool) : VZ Bool := fun Γ X k => a Γ X fun x => b Γ X fun y => f x y X fun t => if t = true then c Γ X fun z => g y z X k else k false
theorem StoR.lst {σ : Sto} {ah : AH} (st : StoR σ ah) {n : Nat} {us : List U} (e : σ n = some (.lst us)) : ∃ ds, ah[n]? = some (.lst ds) ∧ Rs (okS σ) ah us ds := by
  obtain ⟨_, o, e2, r⟩ := st.at' n _ e
  obtain ⟨ds, rfl, r⟩ := r.lst
  exact ⟨ds, e2, r⟩
theorem OR.ins {ok : Nat → Prop} {ah : AH} {C : Str} {fs : List Str} {us : List U} {o : AObj} (h : OR ok ah (.ins C fs us) o) : ∃ kvs, o = .ins C kvs ∧ kvs.map (·.1) = fs ∧ Rs ok ah us (kvs.map (·.2)) := by
  cases o with
  | ins C' kvs => obtain ⟨rfl, a, b⟩ := h; exact ⟨kvs, rfl, a, b⟩
  | _ => exact h.elim
theorem StoR.ins {σ : Sto} {ah : AH} (st : StoR σ ah) {n : Nat} {C : Str} {fs : List Str} {us : List U} (e : σ n = some (.ins C fs us)) : ∃ kvs, ah[n]? = some (.ins C kvs) ∧ kvs.map (·.1) = fs ∧ Rs (okS σ) ah us (kvs.map (·.2)) := by
  obtain ⟨_, o, e2, r⟩ := st.at' n _ e
  obtain ⟨kvs, rfl, r1, r2⟩ := OR.ins r
  exact ⟨kvs, e2, r1, r2⟩
theorem OR.dK {ok : Nat → Prop} {ah : AH} {ks : List Key} {us : List U} {o : AObj} (h : OR ok ah (.dK ks us) o) : ∃ kvs, o = .dK kvs ∧ kvs.map (·.1) = ks ∧ Rs ok ah us (kvs.map (·.2)) := by
  cases o with
  | dK kvs => exact ⟨kvs, rfl, h.1, h.2⟩
  | _ => exact h.elim
def lstS (σ : Sto) (n : Nat) (k : List U → Prop) : Prop := match σ n with
  | some (.lst us) => k us
  | _ => False
theorem lstS_at {σ : Sto} {n : Nat} {k : List U → Prop} (h : lstS σ n k) : ∃ us, σ n = some (.lst us) ∧ k us := by
  unfold lstS at h
  split at h
  · exact ⟨_, by assumption, h⟩
  · exact h.elim
def zIx : Z2o U
  | .ref n, .int i, _, k => fun σ => lstS σ n fun us => match ixD us i with
    | some u => k u σ
    | none => False
  | u, i, X, k => zO2 vIx u i X k
theorem RU_ref {ok : Nat → Prop} {ah : AH} {n : Nat} {d : D} (h : RU.r ok ah (.ref n) d) : d = .ref n := by
  have h' : R ok ah (.ref n) d := h
  simpa only [R] using h'
theorem RU_int {ok : Nat → Prop} {ah : AH} {n : Int} {d : D} (h : RU.r ok ah (.int n) d) : d = .int n := by
  have h' : R ok ah (.int n) d := h
  simpa only [R] using h'
theorem so_ix : SO2 K RU RU RU oIx zIx := ⟨fun {σ ah N X k a b a' b'} q q' st kk x => by
  unfold zIx at x
  split at x
  · rw [RU_ref q, RU_int q']
    obtain ⟨us, e, x⟩ := lstS_at x
    obtain ⟨ds, e2, r⟩ := st.lst e
    split at x
    · rename_i u h
      obtain ⟨d, h1, h2⟩ := ixD_Rs r h
      unfold oIx
      simp only [e2, h1]
      exact .okI x h2 st kk
    · exact x.elim
  · exact (so_2 lo_ix).to q q' st kk x⟩
def zListOf : Z1o (List U)
  | .ref n, _, k => fun σ => lstS σ n fun us => k us σ
  | u, X, k => zO1 vListOf u X k
def zSeqOf : Z1o (List U)
  | .ref n, _, k => fun σ => lstS σ n fun us => k us σ
  | u, X, k => zO1 vSeqOf u X k
theorem so_seqOf : SO1 K RU RUs 0 seqOf zSeqOf := ⟨fun {σ ah N X k a b} q st kk l x => by
  unfold zSeqOf at x
  split at x
  · rw [RU_ref q]
    obtain ⟨us, e, x⟩ := lstS_at x
    obtain ⟨ds, e2, r⟩ := st.lst e
    unfold seqOf HA.listAt
    simp only [e2]
    exact .okI x r st kk
  · exact (so_1 lo_seqOf).to q st kk l x⟩
def zLenA : List U → ExS → (U → MP) → MP
  | [.ref n], _, k => fun σ => lstS σ n fun us => k (.int us.length) σ
  | us, X, k => zO1 vLenA us X k
def insS (σ : Sto) (n : Nat) (k : Str → List Str → List U → Prop) : Prop := match σ n with
  | some (.ins C fs us) => k C fs us
  | _ => False
def zFld (Cs : List (Str × List Str)) (f : Str) : Z1o U
  | .ref n, _, k => fun σ => insS σ n fun C fs us => (match Cs.lookup C with
    | some l => f ∈ l
    | none => False) ∧ match (fs.zip us).lookup f with
    | some u => k u σ
    | none => False
  | u, X, k => zO1 (vFldC Cs f) u X k
def XFz : ExS := fun _ _ _ => False
def zLcL (vt : VTM) (pt : VZ Bool) (pe : VZ U) (Γ : UEnv) : List U → (List U → MP) → MP
  | [], k => k []
  | u :: us, k => fun σ => match vt u with
    | some bs => pt (setU Γ bs) XFz (fun t => if t = true then pe (setU Γ bs) XFz fun y => zLcL vt pt pe Γ us fun ys => k (y :: ys) else zLcL vt pt pe Γ us k) σ
    | none => False
def zLc (pi : VZ (List U)) (vt : VTM) (pt : VZ Bool) (pe : VZ U) (vs : List Nat) : VZ (List U) := fun Γ X k => pi Γ X fun us σ => us.length ≤ line ∧ zLcL vt pt pe (wipeU Γ vs) us k σ
theorem guard_growS {σ σ' : Sto} {ah ah' : AH} {t : Itm} (g : GrowS σ ah σ' ah') (hg : ∀ p, p ∈ t.guard → okS σ p.1 ∧ ah[p.1]? = some (.lst p.2)) : ∀ p, p ∈ t.guard → okS σ' p.1 ∧ ah'[p.1]? = some (.lst p.2) := fun p hp => by
  obtain ⟨a, e⟩ := hg p hp
  have hl := (List.getElem?_eq_some_iff.mp e).1
  exact ⟨growS_ok g _ ⟨a, hl⟩, by rw [g.same _ a.1 hl a.2]; exact e⟩
instance : Inb RLt := ⟨fun {ok ah a b} h => by
  cases b with
  | inl ds => exact Rs.inb _ _ h
  | inr n => obtain ⟨ds, o, e, r⟩ := h; exact ⟨ds, ⟨o, (List.getElem?_eq_some_iff.mp e).1⟩, e, Rs.inb _ _ r⟩⟩
end
end HV
namespace HV
open PySem PySem.Spec PyProof.Rows L2 HA
structure SZ where
  nx : UEnv → MP
  rt : U → MP
  bk : UEnv → MP
  ct : UEnv → MP
  ex : Str → EF → UEnv → MP
abbrev VQ := UEnv → SZ → MP
section
variable (K : Dks)
def PQR (σ : Sto) (ah : AH) (N : Nat) (S : SZ) : SRes → Prop
  | .nx env' ah' => ∃ Γ' σ', S.nx Γ' σ' ∧ EnvR (okS σ') ah' Γ' env' ∧ GrowS σ ah σ' ah' ∧ StoR σ' ah' ∧ K.at' N ah'
  | .rt d ah' => ∃ u σ', S.rt u σ' ∧ R (okS σ') ah' u d ∧ GrowS σ ah σ' ah' ∧ StoR σ' ah' ∧ K.at' N ah'
  | .bk env' ah' => ∃ Γ' σ', S.bk Γ' σ' ∧ EnvR (okS σ') ah' Γ' env' ∧ GrowS σ ah σ' ah' ∧ StoR σ' ah' ∧ K.at' N ah'
  | .ct env' ah' => ∃ Γ' σ', S.ct Γ' σ' ∧ EnvR (okS σ') ah' Γ' env' ∧ GrowS σ ah σ' ah' ∧ StoR σ' ah' ∧ K.at' N ah'
  | .exn c fs env' ah' => ∃ f Γ' σ', S.ex c f Γ' σ' ∧ RX (okS σ') ah' f fs ∧ EnvR (okS σ') ah' Γ' env' ∧ GrowS σ ah σ' ah' ∧ StoR σ' ah' ∧ K.at' N ah'
  | .stuck => False
structure SS (c : Nat) (m : SM) (p : VQ) : Prop where
  to : ∀ {Γ : UEnv} {env : HA.Env} {σ : Sto} {ah : AH} {N : Nat} {S : SZ}, EnvR (okS σ) ah Γ env → StoR σ ah → K.at' N ah → N + cb c ≤ LIM → p Γ S σ → PQR K σ ah (N + cb c) S (m env ah)
end
section
variable {K : Dks}
theorem PQR.le {σ : Sto} {ah : AH} {N M : Nat} {S : SZ} {r : SRes} (h : PQR K σ ah N S r) (hM : N ≤ M) : PQR K σ ah M S r := by
  revert h
  unfold PQR
  split
  · exact fun ⟨a, s, h1, h2, h3, h4, h5⟩ => ⟨a, s, h1, h2, h3, h4, K.mono h5 hM⟩
  · exact fun ⟨a, s, h1, h2, h3, h4, h5⟩ => ⟨a, s, h1, h2, h3, h4, K.mono h5 hM⟩
  · exact fun ⟨a, s, h1, h2, h3, h4, h5⟩ => ⟨a, s, h1, h2, h3, h4, K.mono h5 hM⟩
  · exact fun ⟨a, s, h1, h2, h3, h4, h5⟩ => ⟨a, s, h1, h2, h3, h4, K.mono h5 hM⟩
  · exact fun ⟨f, a, s, h1, h2, h3, h4, h5, h6⟩ => ⟨f, a, s, h1, h2, h3, h4, h5, K.mono h6 hM⟩
  · exact fun h => h
theorem PQR.after {σ σ1 : Sto} {ah ah1 : AH} {N : Nat} {S : SZ} {r : SRes} (h : PQR K σ1 ah1 N S r) (g : GrowS σ ah σ1 ah1) : PQR K σ ah N S r := by
  revert h
  unfold PQR
  split
  · exact fun ⟨a, s, h1, h2, h3, h4, h5⟩ => ⟨a, s, h1, h2, g.trans h3, h4, h5⟩
  · exact fun ⟨a, s, h1, h2, h3, h4, h5⟩ => ⟨a, s, h1, h2, g.trans h3, h4, h5⟩
  · exact fun ⟨a, s, h1, h2, h3, h4, h5⟩ => ⟨a, s, h1, h2, g.trans h3, h4, h5⟩
  · exact fun ⟨a, s, h1, h2, h3, h4, h5⟩ => ⟨a, s, h1, h2, g.trans h3, h4, h5⟩
  · exact fun ⟨f, a, s, h1, h2, h3, h4, h5, h6⟩ => ⟨f, a, s, h1, h2, h3, g.trans h4, h5, h6⟩
  · exact fun h => h
theorem PQR.expr {α β : Type} {Q : Rl α β} {Γ : UEnv} {env : HA.Env} {σ : Sto} {ah : AH} {N M : Nat} {S : SZ} {k : α → MP} {r : Res β} {f : β → AH → SRes} (e : EnvR (okS σ) ah Γ env)
    (h : PRS K σ ah N Q (fun a f => S.ex a f Γ) k r) (hN : N ≤ M) (hf : ∀ a x σ' ah', k a σ' → Q.r (okS σ') ah' a x → GrowS σ ah σ' ah' → EnvR (okS σ') ah' Γ env → StoR σ' ah' → K.at' N ah' → PQR K σ' ah' M S (f x ah')) : PQR K σ ah M S (r.thenS env f) := by
  cases r with
  | ok x ah' =>
    obtain ⟨a, s, ka, q, g, st, kk⟩ := h
    exact (hf a x s ah' ka q g (e.growS g) st kk).after g
  | exn c fs ah' =>
    obtain ⟨f, s, x, q, g, st, kk⟩ := h
    exact ⟨f, Γ, s, x, q, e.growS g, g, st, K.mono kk hN⟩
  | stuck => exact h
def qSkip : VQ := fun Γ S => S.nx Γ
def qSeq (a b : VQ) : VQ := fun Γ S => a Γ ⟨fun Γ' => b Γ' S, S.rt, S.bk, S.ct, S.ex⟩
def qRet (p : VZ U) : VQ := fun Γ S => p Γ (fun a f => S.ex a f Γ) S.rt
def qRetN : VQ := fun _ S => S.rt .non
def qExpr (p : VZ U) : VQ := fun Γ S => p Γ (fun a f => S.ex a f Γ) fun _ => S.nx Γ
def qAsg (p : VZ U) (t : VTM) : VQ := fun Γ S => p Γ (fun a f => S.ex a f Γ) fun u σ => match t u with
  | some bs => S.nx (setU Γ bs) σ
  | none => False
def qIf (c : VZ Bool) (a b : VQ) : VQ := fun Γ S => c Γ (fun a f => S.ex a f Γ) fun t => if t = true then a Γ S else b Γ S
def qBk : VQ := fun Γ S => S.bk Γ
def qCt : VQ := fun Γ S => S.ct Γ
theorem ss_skip : SS K 0 sSkip qSkip := ⟨fun e st kk l x => ⟨_, _, x, e, GrowS.refl, st, kk⟩⟩
theorem ss_seq {c c' : Nat} {m m' : SM} {p p' : VQ} (h : SS K c m p) (h' : SS K c' m' p') : SS K (sq c c') (sSeq m m') (qSeq p p') := ⟨fun {Γ env σ ah N S} e st kk l x => by
  have s := cb_sq c c'
  have w := h.to e st kk (by omega) x
  unfold sSeq
  cases z : m env ah with
  | nx env1 ah1 =>
    rw [z] at w
    obtain ⟨Γ', σ', y1, y2, y3, y4, y5⟩ := w
    exact ((h'.to y2 y4 y5 (by omega) y1).after y3).le (by omega)
  | rt d ah1 => rw [z] at w; exact PQR.le (N := N + cb c) w (by omega)
  | bk d ah1 => rw [z] at w; exact PQR.le (N := N + cb c) w (by omega)
  | ct d ah1 => rw [z] at w; exact PQR.le (N := N + cb c) w (by omega)
  | exn a b d ah1 => rw [z] at w; exact PQR.le (N := N + cb c) w (by omega)
  | stuck => rw [z] at w; exact w⟩
theorem ss_ret {c : Nat} {m : EM D} {p : VZ U} (h : SE K RU c m p) : SS K c (sRet m) (qRet p) := ⟨fun {Γ env σ ah N S} e st kk l x =>
  PQR.expr e (h.to e st kk l x) (Nat.le_refl _) fun a d σ' ah' ka q g e' st' kk' => ⟨a, σ', ka, q, GrowS.refl, st', kk'⟩⟩
theorem ss_expr {c : Nat} {m : EM D} {p : VZ U} (h : SE K RU c m p) : SS K c (sExpr m) (qExpr p) := ⟨fun {Γ env σ ah N S} e st kk l x =>
  PQR.expr e (h.to e st kk l x) (Nat.le_refl _) fun a d σ' ah' ka q g e' st' kk' => ⟨Γ, σ', ka, e', GrowS.refl, st', kk'⟩⟩
theorem ss_asg {c : Nat} {m : EM D} {p : VZ U} {tm : TM} {vt : VTM} {ts : List Nat} (h : SE K RU c m p) (hT : LTg tm vt ts) : SS K c (sAsg m tm) (qAsg p vt) := ⟨fun {Γ env σ ah N S} e st kk l x =>
  PQR.expr e (h.to e st kk l x) (Nat.le_refl _) fun a d σ' ah' ka q g e' st' kk' => by
    split at ka
    · rename_i bs hbs
      obtain ⟨cs, h1, h2, h3⟩ := hT.to env q hbs
      rw [h1]
      exact ⟨_, σ', ka, e'.sets h2, GrowS.refl, st', kk'⟩
    · exact ka.elim⟩
theorem PQR.ite {σ : Sto} {ah : AH} {N : Nat} {S : SZ} {a b : SRes} {t : Bool} {x y : MP} (h : (if t = true then x else y) σ) (ha : x σ → PQR K σ ah N S a) (hb : y σ → PQR K σ ah N S b) : PQR K σ ah N S (if t = true then a else b) := by
  cases t with
  | true => exact ha h
  | false => exact hb h
theorem ss_if {c c1 c2 : Nat} {mc : EM Bool} {pc : VZ Bool} {m m' : SM} {p p' : VQ} (hc : SE K (REq Bool) c mc pc) (h : SS K c1 m p) (h' : SS K c2 m' p') : SS K (sq c (sq c1 c2)) (sIf mc m m') (qIf pc p p') := ⟨fun {Γ env σ ah N S} e st kk l x => by
  have s := cb_sq c (sq c1 c2)
  have s' := cb_sq c1 c2
  refine PQR.expr e (hc.to e st kk (by omega) x) (by omega) fun a b σ' ah' ka q g e' st' k2 => ?_
  cases q
  exact PQR.ite ka (fun z => (h.to e' st' k2 (by omega) z).le (by omega)) fun z => (h'.to e' st' k2 (by omega) z).le (by omega)⟩
def qForL (vt : VTM) (body : VQ) : List U → UEnv → SZ → MP
  | [], Γ, S => S.nx Γ
  | u :: us, Γ, S => fun σ => match vt u with
    | some bs => body (setU Γ bs) ⟨fun Γ' => qForL vt body us Γ' S, S.rt, S.nx, fun Γ' => qForL vt body us Γ' S, S.ex⟩ σ
    | none => False
def qFor (pi : VZ (List U)) (vt : VTM) (body : VQ) : VQ := fun Γ S => pi Γ (fun a f => S.ex a f Γ) fun us => qForL vt body us Γ S
def qForB (pi : VZ (List U)) (vt : VTM) (body : VQ) : VQ := fun Γ S => pi Γ (fun a f => S.ex a f Γ) fun us σ => us.length ≤ line ∧ qForL vt body us Γ S σ
theorem forLoop_Z {c : Nat} {t : Itm} {tm : TM} {vt : VTM} {ts : List Nat} {body : SM} {pb : VQ} {S : SZ} (hT : LTg tm vt ts) (hb : SS K c body pb) :
    ∀ (us : List U) (ds : List D) (Γ : UEnv) (env : HA.Env) (σ : Sto) (ah : AH) (N : Nat), EnvR (okS σ) ah Γ env → StoR σ ah → K.at' N ah → (∀ q, q ∈ t.guard → okS σ q.1 ∧ ah[q.1]? = some (.lst q.2)) → N + us.length * cb c ≤ LIM → Rs (okS σ) ah us ds → qForL vt pb us Γ S σ → PQR K σ ah (N + us.length * cb c) S (forLoop t tm body ds env ah)
  | [], ds, Γ, env, σ, ah, N, e, st, kk, hg, l, r, x => by
    simp only [Rs] at r
    subst r
    unfold forLoop
    rw [if_pos (okIn_of fun p hp => (hg p hp).2)]
    exact ⟨Γ, σ, x, e, GrowS.refl, st, by simpa using kk⟩
  | u :: us, ds, Γ, env, σ, ah, N, e, st, kk, hg, l, r, x => by
    simp only [Rs] at r
    obtain ⟨d, ds, rfl, q, r⟩ := r
    rw [List.length_cons, Nat.add_mul, Nat.one_mul] at l ⊢
    unfold qForL at x
    split at x
    · rename_i bs hbs
      obtain ⟨cs, h1, h2, h3⟩ := hT.to env q hbs
      unfold forLoop
      rw [if_pos (okIn_of fun p hp => (hg p hp).2), h1]
      simp only
      have w := hb.to (e.sets h2) st kk (by omega) x
      have go : ∀ (Γ' : UEnv) (env' : HA.Env) (σ' : Sto) (ah' : AH), qForL vt pb us Γ' S σ' → EnvR (okS σ') ah' Γ' env' → GrowS σ ah σ' ah' → StoR σ' ah' → K.at' (N + cb c) ah' → PQR K σ ah (N + (us.length * cb c + cb c)) S (forLoop t tm body ds env' ah') := fun Γ' env' σ' ah' y1 y2 y3 y4 y5 =>
        ((forLoop_Z hT hb us ds Γ' env' σ' ah' (N + cb c) y2 y4 y5 (guard_growS y3 hg) (by omega) (r.growS y3) y1).after y3).le (by omega)
      cases z : body (setD env cs) ah with
      | nx env1 ah1 => rw [z] at w; obtain ⟨Γ', σ', y1, y2, y3, y4, y5⟩ := w; exact go Γ' env1 σ' ah1 y1 y2 y3 y4 y5
      | ct env1 ah1 => rw [z] at w; obtain ⟨Γ', σ', y1, y2, y3, y4, y5⟩ := w; exact go Γ' env1 σ' ah1 y1 y2 y3 y4 y5
      | bk env1 ah1 => rw [z] at w; obtain ⟨Γ', σ', y1, y2, y3, y4, y5⟩ := w; exact ⟨Γ', σ', y1, y2, y3, y4, K.mono y5 (by omega)⟩
      | rt d ah1 => rw [z] at w; exact PQR.le (N := N + cb c) (r := .rt d ah1) w (by omega)
      | exn a fs e ah1 => rw [z] at w; exact PQR.le (N := N + cb c) (r := .exn a fs e ah1) w (by omega)
      | stuck => rw [z] at w; exact w.elim
    · exact x.elim
theorem ss_for {c : Nat} {mi : EM Itm} {pi : VZ (List U)} {tm : TM} {vt : VTM} {ts : List Nat} {body : SM} {pb : VQ} (hi : SE K RIt c mi pi) (hT : LTg tm vt ts) (hb : SS K 0 body pb) : SS K c (sFor mi tm body) (qFor pi vt pb) := ⟨fun {Γ env σ ah N S} e st kk l x =>
  PQR.expr (N := N + cb c) e (hi.to e st kk l x) (Nat.le_refl _) fun us t σ' ah' ka q g e' st' kk' => by
    have := forLoop_Z hT hb us t.items Γ env σ' ah' (N + cb c) e' st' kk' q.2 (by rw [cb_zero]; omega) q.1 ka
    exact this.le (by rw [cb_zero]; omega)⟩
theorem ss_forB {c c' : Nat} {mi : EM Itm} {pi : VZ (List U)} {tm : TM} {vt : VTM} {ts : List Nat} {body : SM} {pb : VQ} (hi : SE K RIt c mi pi) (hT : LTg tm vt ts) (hb : SS K c' body pb) : SS K (sq c (lp c')) (sFor mi tm body) (qForB pi vt pb) := ⟨fun {Γ env σ ah N S} e st kk l x => by
  have s := cb_sq c (lp c')
  refine PQR.expr (N := N + cb c) e (hi.to e st kk (by omega) x) (by omega) fun us t σ' ah' ka q g e' st' kk' => ?_
  have lb := cb_lp c' us.length ka.1
  have := forLoop_Z hT hb us t.items Γ env σ' ah' (N + cb c) e' st' kk' q.2 (by omega) q.1 ka.2
  exact this.le (by omega)⟩
def qWh (pc : VZ Bool) (body : VQ) : Nat → VQ
  | 0 => fun _ _ _ => False
  | n + 1 => fun Γ S => pc Γ (fun a f => S.ex a f Γ) fun t => if t = true then body Γ ⟨fun Γ' => qWh pc body n Γ' S, S.rt, S.nx, fun Γ' => qWh pc body n Γ' S, S.ex⟩ else S.nx Γ
def qPar2 (i j : Nat) (p : VZ (List U)) : VQ := fun Γ S => p Γ (fun a f => S.ex a f Γ) fun us σ => match us with
  | [x, y] => S.nx ((Γ.set i (some x)).set j (some y)) σ
  | _ => False
theorem StoR.put {σ : Sto} {ah : AH} {n : Nat} {c c' : U} {o' : AObj} (st : StoR σ ah) (e : σ n = some c) (r : OR (okS σ) ah c' o') : StoR (updS σ n c') (ah.set n o') ∧ GrowS σ ah (updS σ n c') (ah.set n o') := by
  have hl := st.lt e
  have dm : ∀ m, updS σ n c' m = none ↔ σ m = none := fun m => by
    by_cases z : m = n
    · subst z; rw [updS_same, e]; simp
    · rw [updS_ne z]
  have gs : GrowS σ ah (updS σ n c') (ah.set n o') := ⟨by simp, fun m h3 hm em => List.getElem?_set_ne (fun z => by subst z; rw [e] at em; cases em), fun m hm em => (dm m).mpr em⟩
  refine ⟨⟨fun m x em => ?_⟩, gs⟩
  by_cases z : m = n
  · subst z
    rw [updS_same] at em
    cases em
    exact ⟨(st.at' m c e).1, o', by rw [List.getElem?_set_self hl], r.growS gs⟩
  · rw [updS_ne z] at em
    obtain ⟨h3, o, e2, r'⟩ := st.at' m x em
    exact ⟨h3, o, by rw [List.getElem?_set_ne (fun w => z w.symm)]; exact e2, r'.growS gs⟩
def qSetL (pi po pv : VZ U) : VQ := fun Γ S => pv Γ (fun a f => S.ex a f Γ) fun v => po Γ (fun a f => S.ex a f Γ) fun o => pi Γ (fun a f => S.ex a f Γ) fun kd σ => match o, kd with
  | .ref n, .int q => lstS σ n fun xs => match ixN xs.length q with
    | some j => S.nx Γ (updS σ n (.lst (xs.set j v)))
    | none => False
  | _, _ => False
theorem ss_setL {c c1 c2 : Nat} {mo mi mv : EM D} {po pi pv : VZ U} (hv : SE K RU c mv pv) (ho : SE K RU c1 mo po) (hi : SE K RU c2 mi pi) : SS K (sq c (sq c1 c2)) (sSetL mo mi mv) (qSetL pi po pv) := ⟨fun {Γ env σ ah N S} e st kk l x => by
  have s := cb_sq c (sq c1 c2)
  have s' := cb_sq c1 c2
  unfold sSetL
  refine PQR.expr e (hv.to e st kk (by omega) x) (by omega) fun v dv σ1 ah1 ka q g e1 st1 k1 => ?_
  refine PQR.expr e1 (ho.to e1 st1 k1 (by omega) ka) (by omega) fun o d σ2 ah2 ka2 q2 g2 e2 st2 k2 => ?_
  refine PQR.expr e2 ((hi.to e2 st2 k2 (by omega) ka2).le (M := N + cb (sq c (sq c1 c2))) (by omega)) (Nat.le_refl _) fun kd dd σ3 ah3 ka3 q3 g3 e3 st3 k3 => ?_
  split at ka3
  · rename_i n i
    rw [RU_int q3, RU_ref (RU.growS q2 g3)]
    obtain ⟨xs, es, y⟩ := lstS_at ka3
    obtain ⟨ds, ea, r⟩ := st3.lst es
    simp only [ea]
    rw [← r.len]
    split at y
    · rename_i j hj
      have h3 := (st3.at' _ _ es).1
      obtain ⟨f1, f2⟩ := st3.put es (c' := .lst (xs.set j v)) (o' := .lst (ds.set j dv)) (Rs.set j r (R.growS (R.growS q g2) g3))
      try simp only [hj]
      exact ⟨Γ, _, y, e3.growS f2, f2, f1, K.set k3 h3⟩
    · exact y.elim
  · exact ka3.elim⟩
def zMt (po : VZ U) (pa : VZ (List U)) (vf : VMt) : VZ U := fun Γ X k => po Γ X fun o σ => match o with
  | .ref n => lstS σ n fun _ => pa Γ X (fun us σ1 => match σ1 n with
    | some c => vf c us fun r c' => k r (updS σ1 n c')
    | none => False) σ
  | _ => False
theorem se_mt {c c' : Nat} {mo : EM D} {ml : EM (List D)} {po : VZ U} {pa : VZ (List U)} {f : D → List D → AH → Res D} {vf : VMt} (ho : SE K RU c mo po) (ha : SE K RUs c' ml pa) (hf : LMt f vf) : SE K RU (sq c c') (eMt mo ml f) (zMt po pa vf) := ⟨fun {Γ env σ ah N X k} e st kk l x => by
  have s := cb_sq c c'
  refine PRS.bind (ho.to e st kk (by omega) x) (by omega) fun o d σ1 ah1 ka q g st1 k1 => ?_
  split at ka
  · rename_i n
    rw [RU_ref q]
    obtain ⟨xs, es, y⟩ := lstS_at ka
    obtain ⟨ds0, ea, r0⟩ := st1.lst es
    have il : isList (.ref n) ah1 = true := by unfold isList HA.listAt; simp only [ea]; rfl
    simp only [il, if_true]
    refine PRS.bind ((ha.to (e.growS g) st1 k1 (by omega) y).le (M := N + cb (sq c c')) (by omega)) (Nat.le_refl _) fun us ds σ2 ah2 ka2 q2 g2 st2 k2 => ?_
    split at ka2
    · rename_i cc ec
      obtain ⟨h3, ob, eo, ro⟩ := st2.at' n cc ec
      have hn : ¬ okS σ2 n := fun h => by rw [h.2] at ec; cases ec
      obtain ⟨d', o', r, u', w1, w2, w3, w4⟩ := hf.to hn eo ro q2 ka2
      rw [w1]
      obtain ⟨f1, f2⟩ := st2.put ec w4
      exact ⟨r, _, w2, R.growS w3 f2, f2, f1, K.set k2 h3⟩
    · exact ka2.elim
  · exact ka.elim⟩
end
end HV
namespace HV
open PySem PySem.Spec PyProof.Rows L2 HA
section
variable {K : Dks}
def qFld (Cs : List (Str × List Str)) (f : Str) (po pv : VZ U) : VQ := fun Γ S => pv Γ (fun a g => S.ex a g Γ) fun v => po Γ (fun a g => S.ex a g Γ) fun o σ => match o with
  | .ref n => insS σ n fun C fs us => (hasF Cs C f = true ∧ fs.length < 1000) ∧ S.nx Γ (updS σ n (.ins C (putK f fs) (putV f v fs us)))
  | _ => False
def qFn (n ar : Nat) (pb : VQ) : List U → ExS → (U → MP) → MP := fun us X k σ => us.length = ar ∧ pb (us.map some ++ List.replicate (n - us.length) none) ⟨fun _ => k .non, k, fun _ _ => False, fun _ _ => False, fun a f _ => X a f⟩ σ
abbrev SF (K : Dks) (c : Nat) (m : List D → AH → Res D) (p : List U → ExS → (U → MP) → MP) : Prop := SO1 K RUs RU c m p
theorem startZ {ok : Nat → Prop} {ah : AH} {us : List U} {ds : List D} (r : Rs ok ah us ds) (n : Nat) : EnvR ok ah (us.map some ++ List.replicate n none) (ds.map some ++ List.replicate n none) :=
  ⟨by simp [r.len], fun i u e => by
    by_cases hi : i < us.length
    · rw [List.getElem?_append_left (by simpa using hi), List.getElem?_map] at e
      cases z : us[i]? with
      | none => rw [z] at e; cases e
      | some w =>
        rw [z] at e
        cases e
        obtain ⟨d, h1, h2⟩ := r.get z
        refine ⟨d, ?_, h2⟩
        rw [List.getElem?_append_left (by rw [List.length_map, ← r.len]; exact hi), List.getElem?_map, h1]
        rfl
    · rw [List.getElem?_append_right (by simpa using hi), List.getElem?_replicate] at e
      split at e
      · cases e
      · cases e⟩
theorem sf_fn {c n ar : Nat} {mb : SM} {pb : VQ} (h : SS K c mb pb) : SF K c (fnR n ar mb) (qFn n ar pb) := ⟨fun {σ ah N X k us ds} q st kk l x => by
  obtain ⟨hl, x⟩ := x
  have q' : Rs (okS σ) ah us ds := q
  have w := h.to (startZ q' (n - us.length)) st kk l x
  unfold fnR
  rw [if_pos (by rw [← q'.len]; exact hl), ← q'.len]
  cases z : mb (ds.map some ++ List.replicate (n - us.length) none) ah with
  | nx e ah1 => rw [z] at w; obtain ⟨Γ', σ', y1, y2, y3, y4, y5⟩ := w; exact ⟨.non, σ', y1, (show R (okS σ') ah1 .non .non by simp only [R]), y3, y4, y5⟩
  | rt d ah1 => rw [z] at w; exact w
  | bk e ah1 => rw [z] at w; obtain ⟨Γ', σ', y1, _⟩ := w; exact y1.elim
  | ct e ah1 => rw [z] at w; obtain ⟨Γ', σ', y1, _⟩ := w; exact y1.elim
  | exn a fs e ah1 => rw [z] at w; obtain ⟨f, Γ', σ', y1, y2, _, y4, y5, y6⟩ := w; exact ⟨f, σ', y1, y2, y4, y5, y6⟩
  | stuck => rw [z] at w; exact w.elim⟩
def rst (σ τ : Sto) : Sto := fun n => if (σ n).isSome then τ n else none
theorem rst_none {σ τ : Sto} {n : Nat} (h : τ n = none) : rst σ τ n = none := by unfold rst; split <;> simp [h]
theorem rst_some {σ τ : Sto} {n : Nat} {c : U} (h : rst σ τ n = some c) : τ n = some c := by
  unfold rst at h
  split at h
  · exact h
  · cases h
theorem StoR.rst {σ τ : Sto} {ah : AH} (st : StoR τ ah) : StoR (rst σ τ) ah := ⟨fun n c e => by
  obtain ⟨h3, o, e2, r⟩ := st.at' n c (rst_some e)
  exact ⟨h3, o, e2, r.mono (fun m h => ⟨h.1, rst_none h.2⟩) Sta.refl⟩⟩
theorem R.rst {σ τ : Sto} {ah : AH} {u : U} {d : D} (h : R (okS τ) ah u d) : R (okS (rst σ τ)) ah u d := R.mono (fun m h => ⟨h.1, rst_none h.2⟩) Sta.refl _ _ h
theorem RX.rst {σ τ : Sto} {ah : AH} {f : EF} {fs : Option (List (Str × D))} (h : RX (okS τ) ah f fs) : RX (okS (HV.rst σ τ)) ah f fs := RX.mono (fun m h => ⟨h.1, rst_none h.2⟩) Sta.refl h
theorem GrowS.rst {σ τ : Sto} {ah ah' : AH} (g : GrowS σ ah τ ah') : GrowS σ ah (rst σ τ) ah' := ⟨g.len, g.same, fun n hn e => rst_none (g.dom n hn e)⟩
def qFnD (n ar : Nat) (pb : VQ) : List U → ExS → (U → MP) → MP := fun us X k σ => qFn n ar pb us (fun a f τ => X a f (rst σ τ)) (fun u τ => k u (rst σ τ)) σ
theorem sf_fnD {c n ar : Nat} {mb : SM} {pb : VQ} (h : SS K c mb pb) : SF K c (fnR n ar mb) (qFnD n ar pb) := ⟨fun {σ ah N X k us ds} q st kk l x => by
  have w := (sf_fn (n := n) (ar := ar) h).to q st kk l x
  cases z : fnR n ar mb ds ah with
  | ok d ah' => rw [z] at w; obtain ⟨u, τ, y1, y2, y3, y4, y5⟩ := w; exact ⟨u, _, y1, R.rst y2, y3.rst, y4.rst, y5⟩
  | exn c fs ah' => rw [z] at w; obtain ⟨u, τ, y1, y2, y3, y4, y5⟩ := w; exact ⟨u, _, y1, RX.rst y2, y3.rst, y4.rst, y5⟩
  | stuck => rw [z] at w; exact w⟩
theorem SO1.weakZ {α β γ δ : Type} {Q : Rl α β} {Q' : Rl γ δ} {c c' : Nat} {f : β → AH → Res δ} {p : α → ExS → (γ → MP) → MP} (h : SO1 K Q Q' c f p) (hc : Nat.ble c c' = true := by rfl) : SO1 K Q Q' c' f p := ⟨fun q st kk l x =>
  have := cb_mono (Nat.le_of_ble_eq_true hc)
  (h.to q st kk (by omega) x).le (by omega)⟩
theorem sf_stuck {c : Nat} : SF K c (fun _ _ => .stuck) (fun _ _ _ _ => False) := ⟨fun q st kk l x => x.elim⟩
def zCal (pa : VZ (List U)) (f : List U → ExS → (U → MP) → MP) : VZ U := z1 pa f
structure SF2 (K : Dks) (c : Nat) (m : List D → List D → AH → Res D) (p : List U → List U → ExS → (U → MP) → MP) : Prop where
  to : ∀ {σ : Sto} {ah : AH} {N : Nat} {X : ExS} {k : U → MP} {us ws : List U} {ds fs : List D}, Rs (okS σ) ah us ds → Rs (okS σ) ah ws fs → StoR σ ah → K.at' N ah → N + cb c ≤ LIM → p us ws X k σ → PRS K σ ah (N + cb c) RU X k (m ds fs ah)
def zCal2 (pa pb : VZ (List U)) (f : List U → List U → ExS → (U → MP) → MP) : VZ U := z2 pa pb f
def zMkI (C : Str) (p : List U → ExS → (U → MP) → MP) : List U → ExS → (U → MP) → MP := fun us X k σ => ∀ n, 3 ≤ n → σ n = none → p (.ref n :: us) X (fun r τ => r = .non ∧ k (.ref n) τ) (updS σ n (.ins C [] []))
def qRaise (x f : Str) (pa : VZ (List U)) : VQ := fun Γ S => pa Γ (fun a g => S.ex a g Γ) fun us σ => us.length = 1 ∧ S.ex x (some ([f], us)) Γ σ
structure QHnd where
  c : Str
  i : Option Nat
  p : Str → Bool → VQ
def qSui (i : Option Nat) (p : VQ) (f : EF) : VQ := fun Γ S => match i with
  | none => p Γ ⟨S.nx, S.rt, S.bk, S.ct, fun _ _ _ _ => False⟩
  | some i => p (Γ.set i (some (xvU f))) ⟨fun Γ' => S.nx (Γ'.set i none), S.rt, fun Γ' => S.bk (Γ'.set i none), fun Γ' => S.ct (Γ'.set i none), fun _ _ _ _ => False⟩
def qHnd (t : STab) : List QHnd → Str → EF → VQ
  | [], c, f => fun Γ S => S.ex c f Γ
  | h :: r, c, f => fun Γ S σ => match sLook t c h.c with
    | some true => qSui h.i (h.p c (Option.isSome f)) f Γ S σ
    | some false => qHnd t r c f Γ S σ
    | none => False
def qTry (t : STab) (p : VQ) (l : List QHnd) : VQ := fun Γ S => p Γ ⟨S.nx, S.rt, S.bk, S.ct, fun c f Γ' => qHnd t l c f Γ' S⟩
def SSui (K : Dks) (c0 : Nat) (i : Option Nat) (m : SuiM) (p : Str → Bool → VQ) : Prop :=
  ∀ (c : Str) (od : Option Addr), (∀ x, od = some x → x = 0) → SS K c0 (m 0 od c) (p c od.isSome)
inductive SHs (K : Dks) (c0 : Nat) : List Hnd → List QHnd → Prop
  | nil : SHs K c0 [] []
  | one {C : Str} {i : Option Nat} {m : SuiM} {p : Str → Bool → VQ} {l : List Hnd} {v : List QHnd} (h : SSui K c0 i m p) (r : SHs K c0 l v) : SHs K c0 (⟨C, i, m⟩ :: l) (⟨C, i, p⟩ :: v)
def TrueZ : SZ := ⟨fun _ _ => False, fun u _ => u = .bl true, fun _ _ => False, fun _ _ => False, fun _ _ _ _ => False⟩
def sto0 : Sto := fun _ => none
theorem law_Z {c n : Nat} {rest : SM} {pr : VQ} {md : List D → AH → Res D} {ns : List Int} {ah1 : AH} (hd : md [.ref 0] (ah0 ns) = .ok (.ref 2) ah1) (hk : K.at' 0 ah1) (h : SS K c rest pr) (hc : Nat.ble c 4900 = true) (x : pr (none :: some (.ref 2) :: List.replicate n none) TrueZ sto0) :
    ∃ ah', fnR (n + 2) 1 (sSeq (sAsg (e1 (aCons (eVar 0) aNil) md) (gSet 1)) rest) [.ref 0] (ah0 ns) = .ok (.bl true) ah' := by
  have st : EnvR (okS sto0) ah1 (none :: some (.ref 2) :: List.replicate n none) (some (.ref 0) :: some (.ref 2) :: List.replicate n none) := by
    refine ⟨by simp, fun i u e => ?_⟩
    match i with
    | 0 => simp at e
    | 1 =>
      simp only [List.getElem?_cons_succ, List.getElem?_cons_zero, Option.some.injEq] at e
      subst e
      exact ⟨.ref 2, rfl, by simp only [R]⟩
    | i + 2 =>
      simp only [List.getElem?_cons_succ, List.getElem?_replicate] at e
      split at e
      · cases e
      · cases e
  have w := h.to st ⟨fun n c e => by cases e⟩ hk (by
    rw [Nat.zero_add]
    have h1 := Nat.le_of_ble_eq_true hc
    unfold cb LIM
    split
    · exact Nat.zero_le _
    · exact Nat.pow_le_pow_right (by decide) (by omega)) x
  unfold fnR
  simp only [List.length_singleton, if_true, List.map_cons, List.map_nil, List.singleton_append]
  have e0 : (n + 2 - 1) = n + 1 := by omega
  rw [e0, List.replicate_succ]
  simp only [sSeq_def, sAsg_set, e1_def, aCons_def, eVar_zero, Res.bind_ok, aNil_def, hd, thenS_ok, List.set_cons_succ, List.set_cons_zero, next_nx]
  cases z : rest (some (.ref 0) :: some (.ref 2) :: List.replicate n none) ah1 with
  | rt d ah2 =>
    rw [z] at w
    obtain ⟨u, σ', h1, h2, _⟩ := w
    have : u = .bl true := h1
    subst this
    simp only [R] at h2
    subst h2
    exact ⟨ah2, rfl⟩
  | nx e a => rw [z] at w; obtain ⟨_, _, h1, _⟩ := w; exact h1.elim
  | bk e a => rw [z] at w; obtain ⟨_, _, h1, _⟩ := w; exact h1.elim
  | ct e a => rw [z] at w; obtain ⟨_, _, h1, _⟩ := w; exact h1.elim
  | exn c f e a => rw [z] at w; obtain ⟨_, _, _, h1, _⟩ := w; exact h1.elim
  | stuck => rw [z] at w; exact w.elim
end
end HV
namespace HV
open PySem PySem.Spec PyProof.Rows L2 HA
def calZ (p : List U → ExS → (U → MP) → MP) (us : List U) (X : ExS) (k : U → MP) (_ : Dm (X, k)) : MP := p us X k
def forZ (vt : VTM) (body : VQ) (us : List U) (Γ : UEnv) (S : SZ) (_ : Dm (body, S)) : MP := qForL vt body us Γ S
def lcZ (vt : VTM) (pt : VZ Bool) (pe : VZ U) (Γ : UEnv) (us : List U) (k : List U → MP) (_ : Dm (pt, pe, k)) : MP := zLcL vt pt pe Γ us k
def nxZ (f : UEnv → MP) (Γ : UEnv) (σ : Sto) (_ : Dm f) : Prop := f Γ σ
def aN (σ : Sto) (k : Nat → Prop) (_ : Dm k) : Prop := ∀ n, 3 ≤ n → σ n = none → k n
def oLs (o : Option U) (k : List U → Prop) (_ : Dm k) : Prop := match o with
  | some (.lst us) => k us
  | _ => False
def oIn (o : Option U) (k : Str → List Str → List U → Prop) (_ : Dm k) : Prop := match o with
  | some (.ins C fs us) => k C fs us
  | _ => False
def oSt (o : Option U) (k : U → Prop) (_ : Dm k) : Prop := match o with
  | some c => k c
  | none => False
@[simp] theorem nxZ_def (f : UEnv → MP) (Γ : UEnv) (σ : Sto) (d : Dm f) : nxZ f Γ σ d = f Γ σ := nrfl rfl
@[simp] theorem oLs_some (us : List U) (k : List U → Prop) (d : Dm k) : oLs (some (.lst us)) k d = k us := nrfl rfl
@[simp] theorem oIn_some (C : Str) (fs : List Str) (us : List U) (k : Str → List Str → List U → Prop) (d : Dm k) : oIn (some (.ins C fs us)) k d = k C fs us := nrfl rfl
@[simp] theorem oSt_some (c : U) (k : U → Prop) (d : Dm k) : oSt (some c) k d = k c := nrfl rfl
theorem aN_i {σ : Sto} {k : Nat → Prop} {d : Dm k} (h : ∀ n, 3 ≤ n → σ n = none → k n) : aN σ k d := h
@[simp] theorem updS_same' (σ : Sto) (n : Nat) (c : U) : updS σ n c n = some c := updS_same
@[simp] theorem updS_ne' (σ : Sto) (n m : Nat) (c : U) (h : m ≠ n) : updS σ n c m = σ m := updS_ne h
@[simp] theorem updS_twice (σ : Sto) (n : Nat) (c d : U) : updS (updS σ n c) n d = updS σ n d := by
  funext m; unfold updS; split <;> rfl
theorem updS_self {σ : Sto} {n : Nat} {c : U} (h : σ n = some c) : updS σ n c = σ := by
  funext m; unfold updS; split
  · rename_i e; subst e; exact h.symm
  · rfl
theorem updS_comm {σ : Sto} {n m : Nat} {c d : U} (h : n ≠ m) : updS (updS σ n c) m d = updS (updS σ m d) n c := by
  funext x; unfold updS
  by_cases h1 : x = m
  · by_cases h2 : x = n
    · exact absurd (h2.symm.trans h1) h
    · rw [if_pos h1, if_neg h2, if_pos h1]
  · by_cases h2 : x = n
    · rw [if_neg h1, if_pos h2, if_pos h2]
    · rw [if_neg h1, if_neg h2, if_neg h2, if_neg h1]
theorem sne {σ : Sto} {n m : Nat} {c : U} (hm : σ m = some c) (hn : σ n = none) : m ≠ n := fun e => by subst e; rw [hm] at hn; cases hn
@[simp] theorem rst_self (σ : Sto) : rst σ σ = σ := by
  funext m; unfold rst
  cases e : σ m <;> simp [e]
theorem rst_new {σ τ : Sto} {n : Nat} {c : U} (h : σ n = none) : rst σ (updS τ n c) = rst σ τ := by
  funext m; unfold rst updS
  by_cases e : m = n
  · subst e; simp [h]
  · simp [e]
theorem rst_old {σ τ : Sto} {n : Nat} {c d : U} (h : σ n = some d) : rst σ (updS τ n c) = updS (rst σ τ) n c := by
  funext m; unfold rst updS
  by_cases e : m = n
  · subst e; simp [h]
  · simp [e]
theorem iteM {c : Prop} [Decidable c] (a b : MP) (σ : Sto) : (if c then a else b) σ = if c then a σ else b σ := by split <;> rfl
section
variable {α β γ α' γ' : Type} (Γ : UEnv) (X : ExS) (σ : Sto)
@[simp ↓] theorem zE_def (p : VE α) (k : α → MP) : zE p Γ X k σ = p Γ (fun c f => X c f σ) (fun a => k a σ) := nrfl rfl
@[simp ↓] theorem zO1_def (p : α → ExK → (γ → Prop) → Prop) (a : α) (k : γ → MP) : zO1 p a X k σ = p a (fun c f => X c f σ) (fun a => k a σ) := nrfl rfl
@[simp ↓] theorem zO2_def (p : α → α' → ExK → (γ → Prop) → Prop) (a : α) (b : α') (k : γ → MP) : zO2 p a b X k σ = p a b (fun c f => X c f σ) (fun a => k a σ) := nrfl rfl
@[simp ↓] theorem zO3_def (p : α → α' → γ' → ExK → (γ → Prop) → Prop) (a : α) (b : α') (c : γ') (k : γ → MP) : zO3 p a b c X k σ = p a b c (fun c f => X c f σ) (fun a => k a σ) := nrfl rfl
@[simp ↓] theorem z1_def (pa : VZ α) (f : α → ExS → (γ → MP) → MP) (k : γ → MP) : z1 pa f Γ X k = pa Γ X fun a => f a X k := nrfl rfl
@[simp ↓] theorem z2_def (pa : VZ α) (pb : VZ α') (f : α → α' → ExS → (γ → MP) → MP) (k : γ → MP) : z2 pa pb f Γ X k = pa Γ X fun a => pb Γ X fun b => f a b X k := nrfl rfl
@[simp ↓] theorem z3_def (pa : VZ α) (pb : VZ α') (pc : VZ γ') (f : α → α' → γ' → ExS → (γ → MP) → MP) (k : γ → MP) : z3 pa pb pc f Γ X k = pa Γ X fun a => pb Γ X fun b => pc Γ X fun c => f a b c X k := nrfl rfl
@[simp ↓] theorem zaNil_def (k : List U → MP) : zaNil Γ X k = k [] := nrfl rfl
@[simp ↓] theorem zaCons_def (p : VZ U) (r : VZ (List U)) (k : List U → MP) : zaCons p r Γ X k = p Γ X fun u => r Γ X fun us => k (u :: us) := nrfl rfl
@[simp ↓] theorem zTup_def (p : VZ (List U)) (k : U → MP) : zTup p Γ X k = p Γ X fun us σ => us.length ≤ line ∧ k (.tup us) σ := nrfl rfl
@[simp ↓] theorem zLst_def (p : VZ (List U)) (k : List U → MP) : zLst p Γ X k = p Γ X fun us σ => us.length ≤ line ∧ k us σ := nrfl rfl
@[simp ↓] theorem zNew_def (p : VZ (List U)) (k : U → MP) : zNew p Γ X k = p Γ X fun us => k (.lst us) := nrfl rfl
@[simp ↓] theorem zNewS_def (p : VZ (List U)) (k : U → MP) : zNewS p Γ X k = p Γ X fun us σ => aN σ (fun n => k (.ref n) (updS σ n (.lst us))) () := nrfl rfl
@[simp ↓] theorem zB_def (p : VZ Bool) (k : U → MP) : zB p Γ X k = p Γ X fun b => k (.bl b) := nrfl rfl
@[simp ↓] theorem zAnd_def (a b : VZ Bool) (k : Bool → MP) : zAnd a b Γ X k = a Γ X fun t σ => if t = true then b Γ X k σ else k false σ := by
  unfold zAnd; congr 1; funext t σ; rw [iteM]
@[simp ↓] theorem zOr_def (a b : VZ Bool) (k : Bool → MP) : zOr a b Γ X k = a Γ X fun t σ => if t = true then k true σ else b Γ X k σ := by
  unfold zOr; congr 1; funext t σ; rw [iteM]
@[simp ↓] theorem zNot_def (a : VZ Bool) (k : Bool → MP) : zNot a Γ X k = a Γ X fun t => k (!t) := nrfl rfl
@[simp ↓] theorem zTruth_def (u : U) (k : Bool → MP) : zTruth u X k σ = vTruth u (fun c f => X c f σ) (fun a => k a σ) := nrfl rfl
@[simp ↓] theorem zEAnd_def (a b : VZ U) (k : U → MP) : zEAnd a b Γ X k = a Γ X fun u => zTruth u X fun t σ => if t = true then b Γ X k σ else k u σ := by
  unfold zEAnd; congr 1; funext u; congr 1; funext t σ; rw [iteM]
@[simp ↓] theorem zEOr_def (a b : VZ U) (k : U → MP) : zEOr a b Γ X k = a Γ X fun u => zTruth u X fun t σ => if t = true then k u σ else b Γ X k σ := by
  unfold zEOr; congr 1; funext u; congr 1; funext t σ; rw [iteM]
@[simp ↓] theorem zENot_def (a : VZ U) (k : U → MP) : zENot a Γ X k = a Γ X fun u => zTruth u X fun t => k (.bl (!t)) := nrfl rfl
@[simp ↓] theorem zIf_def (c : VZ Bool) (a b : VZ α) (k : α → MP) : zIf c a b Γ X k = c Γ X fun t σ => if t = true then a Γ X k σ else b Γ X k σ := by
  unfold zIf; congr 1; funext t σ; rw [iteM]
@[simp ↓] theorem zChain_def (a b c : VZ U) (f g : Z2o Bool) (k : Bool → MP) : zChain a b c f g Γ X k = a Γ X fun x => b Γ X fun y => f x y X fun t σ => if t = true then c Γ X (fun z => g y z X k) σ else k false σ := by
  unfold zChain; congr 1; funext x; congr 1; funext y; congr 1; funext t σ; rw [iteM]
@[simp ↓] theorem zCal_def (pa : VZ (List U)) (f : List U → ExS → (U → MP) → MP) (k : U → MP) : zCal pa f Γ X k = pa Γ X fun a => calZ f a X k () := nrfl rfl
@[simp ↓] theorem zCal2_def (pa pb : VZ (List U)) (f : List U → List U → ExS → (U → MP) → MP) (k : U → MP) : zCal2 pa pb f Γ X k = pa Γ X fun us => pb Γ X fun ws => f us ws X k := nrfl rfl
@[simp ↓] theorem calZ_zO1 (p : List U → ExK → (U → Prop) → Prop) (us : List U) (k : U → MP) (d : Dm (X, k)) : calZ (zO1 p) us X k d σ = cal p us (fun c f => X c f σ) (fun u => k u σ) () := nrfl rfl
@[simp ↓] theorem zLc_def (pi : VZ (List U)) (vt : VTM) (pt : VZ Bool) (pe : VZ U) (vs : List Nat) (k : List U → MP) : zLc pi vt pt pe vs Γ X k = pi Γ X fun us σ => us.length ≤ line ∧ lcZ vt pt pe (wipeU Γ vs) us k () σ := nrfl rfl
@[simp ↓] theorem zIx_ref (n : Nat) (i : Int) (k : U → MP) : zIx (.ref n) (.int i) X k σ = oLs (σ n) (fun us => oK (ixD us i) (fun u => k u σ) ()) () := by
  show lstS σ n (fun us => match ixD us i with
    | some u => k u σ
    | none => False) = _
  unfold lstS oLs oK
  generalize σ n = o
  rcases o with _ | u
  · rfl
  · cases u <;> first | rfl | (simp only; generalize ixD _ i = z; cases z <;> rfl)
@[simp ↓] theorem zIx_tup (us : List U) (i : U) (k : U → MP) : zIx (.tup us) i X k σ = vIx (.tup us) i (fun c f => X c f σ) (fun u => k u σ) := nrfl rfl
@[simp ↓] theorem zIx_lst (us : List U) (i : U) (k : U → MP) : zIx (.lst us) i X k σ = vIx (.lst us) i (fun c f => X c f σ) (fun u => k u σ) := nrfl rfl
@[simp ↓] theorem zListOf_ref (n : Nat) (k : List U → MP) : zListOf (.ref n) X k σ = oLs (σ n) (fun us => k us σ) () := nrfl rfl
@[simp ↓] theorem zListOf_lst (us : List U) (k : List U → MP) : zListOf (.lst us) X k σ = k us σ := nrfl rfl
@[simp ↓] theorem zSeqOf_ref (n : Nat) (k : List U → MP) : zSeqOf (.ref n) X k σ = oLs (σ n) (fun us => k us σ) () := nrfl rfl
@[simp ↓] theorem zSeqOf_lst (us : List U) (k : List U → MP) : zSeqOf (.lst us) X k σ = k us σ := nrfl rfl
@[simp ↓] theorem zSeqOf_tup (us : List U) (k : List U → MP) : zSeqOf (.tup us) X k σ = k us σ := nrfl rfl
@[simp ↓] theorem zLenA_ref (n : Nat) (k : U → MP) : zLenA [.ref n] X k σ = oLs (σ n) (fun us => k (.int us.length) σ) () := nrfl rfl
@[simp ↓] theorem zFld_ref (Cs : List (Str × List Str)) (f : Str) (n : Nat) (k : U → MP) : zFld Cs f (.ref n) X k σ = oIn (σ n) (fun C fs us => (match Cs.lookup C with
    | some l => f ∈ l
    | none => False) ∧ oK ((fs.zip us).lookup f) (fun u => k u σ) ()) () := by
  show insS σ n (fun C fs us => (match Cs.lookup C with
    | some l => f ∈ l
    | none => False) ∧ match (fs.zip us).lookup f with
    | some u => k u σ
    | none => False) = _
  unfold insS oIn oK
  generalize σ n = o
  rcases o with _ | u
  · rfl
  · cases u <;> first | rfl | (simp only; congr 1; generalize List.lookup f _ = z; cases z <;> rfl)
@[simp ↓] theorem zFld_ins (Cs : List (Str × List Str)) (f C : Str) (fs : List Str) (us : List U) (k : U → MP) : zFld Cs f (.ins C fs us) X k σ = vFldC Cs f (.ins C fs us) (fun c f => X c f σ) (fun u => k u σ) := nrfl rfl
@[simp ↓] theorem zMkI_def (C : Str) (p : List U → ExS → (U → MP) → MP) (us : List U) (k : U → MP) : zMkI C p us X k σ = aN σ (fun n => calZ p (.ref n :: us) X (fun r τ => r = .non ∧ k (.ref n) τ) () (updS σ n (.ins C [] []))) () := nrfl rfl
@[simp ↓] theorem zMt_def (po : VZ U) (pa : VZ (List U)) (vf : VMt) (k : U → MP) : zMt po pa vf Γ X k = po Γ X fun o σ => match o with
  | .ref n => lstS σ n fun _ => pa Γ X (fun us σ1 => oSt (σ1 n) (fun c => vf c us fun r c' => k r (updS σ1 n c')) ()) σ
  | _ => False := nrfl rfl
@[simp] theorem lstS_def (n : Nat) (k : List U → Prop) : lstS σ n k = oLs (σ n) k () := nrfl rfl
@[simp ↓] theorem qFn_def (n ar : Nat) (pb : VQ) (us : List U) (k : U → MP) : qFn n ar pb us X k σ = (us.length = ar ∧ pb (us.map some ++ List.replicate (n - us.length) none) ⟨fun _ => k .non, k, fun _ _ => False, fun _ _ => False, fun a f _ => X a f⟩ σ) := nrfl rfl
@[simp ↓] theorem qFnD_def (n ar : Nat) (pb : VQ) (us : List U) (k : U → MP) : qFnD n ar pb us X k σ = (us.length = ar ∧ pb (us.map some ++ List.replicate (n - us.length) none) ⟨fun _ τ => k .non (rst σ τ), fun u τ => k u (rst σ τ), fun _ _ => False, fun _ _ => False, fun a f _ τ => X a f (rst σ τ)⟩ σ) := nrfl rfl
variable (nx : UEnv → MP) (rt : U → MP) (bk ct : UEnv → MP) (ex : Str → EF → UEnv → MP)
@[simp ↓] theorem qSkip_def : qSkip Γ ⟨nx, rt, bk, ct, ex⟩ = nx Γ := nrfl rfl
@[simp ↓] theorem qSeq_def (a b : VQ) : qSeq a b Γ ⟨nx, rt, bk, ct, ex⟩ = a Γ ⟨fun Γ' => b Γ' ⟨nx, rt, bk, ct, ex⟩, rt, bk, ct, ex⟩ := nrfl rfl
@[simp ↓] theorem qRet_def (p : VZ U) : qRet p Γ ⟨nx, rt, bk, ct, ex⟩ = p Γ (fun a f => ex a f Γ) rt := nrfl rfl
@[simp ↓] theorem qRetN_def : qRetN Γ ⟨nx, rt, bk, ct, ex⟩ = rt .non := nrfl rfl
@[simp ↓] theorem qExpr_def (p : VZ U) : qExpr p Γ ⟨nx, rt, bk, ct, ex⟩ = p Γ (fun a f => ex a f Γ) fun _ => nx Γ := nrfl rfl
@[simp ↓] theorem qAsg_def (p : VZ U) (t : VTM) : qAsg p t Γ ⟨nx, rt, bk, ct, ex⟩ = p Γ (fun a f => ex a f Γ) fun u σ => oK (t u) (fun bs => nxZ nx (setU Γ bs) σ ()) () := by
  unfold qAsg
  congr 1; funext u σ; cases t u <;> rfl
@[simp ↓] theorem qIf_def (c : VZ Bool) (a b : VQ) : qIf c a b Γ ⟨nx, rt, bk, ct, ex⟩ = c Γ (fun a f => ex a f Γ) fun t σ => if t = true then a Γ ⟨nx, rt, bk, ct, ex⟩ σ else b Γ ⟨nx, rt, bk, ct, ex⟩ σ := by
  unfold qIf; congr 1; funext t σ; rw [iteM]
@[simp ↓] theorem qBk_def : qBk Γ ⟨nx, rt, bk, ct, ex⟩ = bk Γ := nrfl rfl
@[simp ↓] theorem qCt_def : qCt Γ ⟨nx, rt, bk, ct, ex⟩ = ct Γ := nrfl rfl
@[simp ↓] theorem qFor_def (pi : VZ (List U)) (vt : VTM) (body : VQ) : qFor pi vt body Γ ⟨nx, rt, bk, ct, ex⟩ = pi Γ (fun a f => ex a f Γ) fun us => forZ vt body us Γ ⟨nx, rt, bk, ct, ex⟩ () := nrfl rfl
@[simp ↓] theorem qForB_def (pi : VZ (List U)) (vt : VTM) (body : VQ) : qForB pi vt body Γ ⟨nx, rt, bk, ct, ex⟩ = pi Γ (fun a f => ex a f Γ) fun us σ => us.length ≤ line ∧ forZ vt body us Γ ⟨nx, rt, bk, ct, ex⟩ () σ := nrfl rfl
@[simp ↓] theorem qPar2_def (i j : Nat) (p : VZ (List U)) : qPar2 i j p Γ ⟨nx, rt, bk, ct, ex⟩ = p Γ (fun a f => ex a f Γ) fun us σ => o2 us (fun x y => nxZ nx ((Γ.set i (some x)).set j (some y)) σ ()) () := nrfl rfl
@[simp ↓] theorem qSetL_def (pi po pv : VZ U) : qSetL pi po pv Γ ⟨nx, rt, bk, ct, ex⟩ = pv Γ (fun a f => ex a f Γ) fun v => po Γ (fun a f => ex a f Γ) fun o => pi Γ (fun a f => ex a f Γ) fun kd σ => match o with
  | .ref n => oI kd (fun q => oLs (σ n) (fun xs => oK (ixN xs.length q) (fun j => nxZ nx Γ (updS σ n (.lst (xs.set j v))) ()) ()) ()) ()
  | _ => False := by
  unfold qSetL
  congr 1; funext v; congr 1; funext o; congr 1; funext kd σ
  cases o <;> try rfl
  rename_i n
  cases kd <;> try rfl
  rename_i i
  show lstS σ n (fun xs => match ixN xs.length i with
    | some j => nx Γ (updS σ n (.lst (xs.set j v)))
    | none => False) = oLs (σ n) (fun xs => oK (ixN xs.length i) (fun j => nxZ nx Γ (updS σ n (.lst (xs.set j v))) ()) ()) ()
  unfold lstS oLs oK
  generalize σ n = z
  rcases z with _ | u
  · rfl
  · cases u <;> first | rfl | (simp only; generalize ixN _ i = z; cases z <;> rfl)
@[simp ↓] theorem qFld_def (Cs : List (Str × List Str)) (f : Str) (po pv : VZ U) : qFld Cs f po pv Γ ⟨nx, rt, bk, ct, ex⟩ = pv Γ (fun a g => ex a g Γ) fun v => po Γ (fun a g => ex a g Γ) fun o σ => match o with
  | .ref n => oIn (σ n) (fun C fs us => (hasF Cs C f = true ∧ fs.length < 1000) ∧ nxZ nx Γ (updS σ n (.ins C (putK f fs) (putV f v fs us))) ()) ()
  | _ => False := nrfl rfl
@[simp ↓] theorem qRaise_def (x f : Str) (pa : VZ (List U)) : qRaise x f pa Γ ⟨nx, rt, bk, ct, ex⟩ = pa Γ (fun a g => ex a g Γ) fun us σ => us.length = 1 ∧ ex x (some ([f], us)) Γ σ := nrfl rfl
@[simp ↓] theorem qTry_def (t : STab) (p : VQ) (l : List QHnd) : qTry t p l Γ ⟨nx, rt, bk, ct, ex⟩ = p Γ ⟨nx, rt, bk, ct, fun c f Γ' => qHnd t l c f Γ' ⟨nx, rt, bk, ct, ex⟩⟩ := nrfl rfl
end
theorem qForL_inv {vt : VTM} {body : VQ} {S : SZ} (I : Nat → UEnv → MP) (B : UEnv → MP) : ∀ (us : List U) (j : Nat) (Γ : UEnv) (σ : Sto), I j Γ σ →
    (∀ (i : Nat) (u : U) (Γ : UEnv) (σ : Sto) (nx bk : UEnv → MP), us[i]? = some u → I (j + i) Γ σ → (∀ Γ' σ', I (j + i + 1) Γ' σ' → nx Γ' σ') → (∀ Γ' σ', B Γ' σ' → bk Γ' σ') → ∃ bs, vt u = some bs ∧ body (setU Γ bs) ⟨nx, S.rt, bk, nx, S.ex⟩ σ) →
    (∀ Γ' σ', I (j + us.length) Γ' σ' → S.nx Γ' σ') → (∀ Γ' σ', B Γ' σ' → S.nx Γ' σ') → qForL vt body us Γ S σ
  | [], j, Γ, σ, h0, _, hn, _ => hn Γ σ h0
  | u :: us, j, Γ, σ, h0, hs, hn, hB => by
    obtain ⟨bs, h1, h2⟩ := hs 0 u Γ σ (fun Γ' => qForL vt body us Γ' S) S.nx rfl h0 (fun Γ' σ' hi => by
      refine qForL_inv I B us (j + 1) Γ' σ' hi (fun i v Γ σ nx bk hv hI hnx hbk => ?_) (fun Γ' σ' hI => hn Γ' σ' ?_) hB
      · exact hs (i + 1) v Γ σ nx bk hv (by rw [show j + (i + 1) = j + 1 + i by omega]; exact hI) (fun Γ' σ' hI => hnx Γ' σ' (by rw [show j + 1 + i + 1 = j + (i + 1) + 1 by omega]; exact hI)) hbk
      · rw [List.length_cons, show j + (us.length + 1) = j + 1 + us.length by omega]; exact hI) hB
    unfold qForL
    rw [h1]
    exact h2
theorem forZ_go {vt : VTM} {body : VQ} {nx0 : UEnv → MP} {rt : U → MP} {bk0 ct0 : UEnv → MP} {ex : Str → EF → UEnv → MP} {Γ : UEnv} {σ : Sto} {us : List U} {d : Dm (body, (⟨nx0, rt, bk0, ct0, ex⟩ : SZ))} (I : Nat → UEnv → MP) (h0 : I 0 Γ σ) (hs : ∀ (i : Nat) (u : U) (Γ : UEnv) (σ : Sto) (nx bk : UEnv → MP), us[i]? = some u → I i Γ σ → (∀ Γ' σ', I (i + 1) Γ' σ' → nx Γ' σ') → ∃ bs, vt u = some bs ∧ body (setU Γ bs) ⟨nx, rt, bk, nx, ex⟩ σ)
    (hn : ∀ Γ' σ', I us.length Γ' σ' → nx0 Γ' σ') : forZ vt body us Γ ⟨nx0, rt, bk0, ct0, ex⟩ d σ :=
  qForL_inv I (fun _ _ => False) us 0 Γ σ h0 (fun i u Γ σ nx bk h1 h2 h3 _ => hs i u Γ σ nx bk h1 (by simpa using h2) (by simpa using h3)) (by simpa using hn) (fun _ _ h => h.elim)
theorem forZ_goM {α : Type} {vt : VTM} {body : VQ} {nx0 : UEnv → MP} {rt : U → MP} {bk0 ct0 : UEnv → MP} {ex : Str → EF → UEnv → MP} {Γ : UEnv} {σ : Sto} (g : α → U) {xs : List α} {d : Dm (body, (⟨nx0, rt, bk0, ct0, ex⟩ : SZ))} (I : Nat → UEnv → MP) (h0 : I 0 Γ σ) (hs : ∀ (i : Nat) (x : α) (Γ : UEnv) (σ : Sto) (nx bk : UEnv → MP), xs[i]? = some x → I i Γ σ → (∀ Γ' σ', I (i + 1) Γ' σ' → nx Γ' σ') → ∃ bs, vt (g x) = some bs ∧ body (setU Γ bs) ⟨nx, rt, bk, nx, ex⟩ σ)
    (hn : ∀ Γ' σ', I xs.length Γ' σ' → nx0 Γ' σ') : forZ vt body (xs.map g) Γ ⟨nx0, rt, bk0, ct0, ex⟩ d σ :=
  forZ_go I h0 (fun i u Γ σ nx bk h1 h2 h3 => by
    rw [List.getElem?_map] at h1
    cases hx : xs[i]? with
    | none => rw [hx] at h1; cases h1
    | some x => rw [hx] at h1; cases h1; exact hs i x Γ σ nx bk hx h2 h3) (by simpa using hn)
end HV
namespace HV
open PySem PySem.Spec PyProof.Rows L2 HA
section
variable (X : ExK) (k : U → Prop)
@[simp ↓] theorem vJ_str (a y : Str) : vJ (.str a) (.str y) X k = ((y.length ≤ line ∧ (a ++ y).length ≤ line) ∧ k (.str (a ++ y))) := nrfl rfl
@[simp ↓] theorem vJ_int (a : Str) (i : Int) : vJ (.str a) (.int i) X k = ((i.natAbs.log2 < 1920 ∧ (a ++ (toString i : Str)).length ≤ line) ∧ k (.str (a ++ (toString i : Str)))) := nrfl rfl
end
end HV
namespace HV
open PySem PySem.Spec PyProof.Rows L2 HA
section
variable {K : Dks}
abbrev ZTab := List (Str × (List U → ExS → (U → MP) → MP))
inductive TabS (K : Dks) (c : Nat) : MTab → ZTab → Prop
  | nil : TabS K c [] []
  | cons {f : Str} {m : List D → AH → Res D} {p : List U → ExS → (U → MP) → MP} {t : MTab} {v : ZTab} (h : SF K c m p) (r : TabS K c t v) : TabS K c ((f, m) :: t) ((f, p) :: v)
theorem TabS.look {c : Nat} {f : Str} {p : List U → ExS → (U → MP) → MP} : ∀ {t : MTab} {v : ZTab}, TabS K c t v → v.lookup f = some p → ∃ m, t.lookup f = some m ∧ SF K c m p
  | _, _, .nil, h => by simp at h
  | _, _, .cons (f := g) h0 r, h => by
    rw [List.lookup_cons] at h ⊢
    split at h
    · cases h; exact ⟨_, by simp [*], h0⟩
    · obtain ⟨m, e, z⟩ := r.look h
      exact ⟨m, by simp [*], z⟩
def zMeth (m : Str) (v : ZTab) (g : List U → List U → List U) (po : VZ U) (pa pb : VZ (List U)) : VZ U := fun Γ X k => po Γ X fun u σ => match u with
  | .ref n => insS σ n fun C fs us => (fs.zip us).lookup m = none ∧ match v.lookup C with
    | some p => pa Γ X (fun as => pb Γ X fun ws => p (g (.ref n :: as) ws) X k) σ
    | none => False
  | _ => False
def zCatS (pa : VZ U) (pt : VZ (List U)) : VZ (List U) := fun Γ X k => pa Γ X fun u => match u with
  | .ref n => pt Γ X fun ys σ => lstS σ n fun xs => xs.length + ys.length ≤ line ∧ k (xs ++ ys) σ
  | _ => fun _ => False
end
section
variable (Γ : UEnv) (X : ExK) (k : U → Prop) (kl : List U → Prop)
@[simp ↓] theorem vZipX_tup (x : Str) (us : List U) : vZipX (.str x) (.tup us) X kl = kl (zipU (charsU x) us) := nrfl rfl
@[simp ↓] theorem vZipX_lst (x : Str) (us : List U) : vZipX (.str x) (.lst us) X kl = kl (zipU (charsU x) us) := nrfl rfl
@[simp ↓] theorem vIR3_def (i j c : Int) : vIR3 (.int i) (.int j) (.int c) X kl = (rgOk i j c = true ∧ kl ((rgL i j c).map U.int)) := nrfl rfl
def mtK (m : Str) (v : VTab) (u : U) (f : (List U → ExK → (U → Prop) → Prop) → Prop) (_ : Dm f) : Prop := match u with
  | .ins C fs us => (fs.zip us).lookup m = none ∧ match v.lookup C with
    | some p => f p
    | none => False
  | _ => False
@[simp ↓] theorem vMeth_def (m : Str) (v : VTab) (g : List U → List U → List U) (po : VE U) (pa pb : VE (List U)) : vMeth m v g po pa pb Γ X k = po Γ X fun u => mtK m v u (fun p => pa Γ X fun as => pb Γ X fun ws => cal p (g (u :: as) ws) X k ()) () := nrfl rfl
theorem mtK_ins (m : Str) (v : VTab) (C : Str) (fs : List Str) (us : List U) (f) (d) : mtK m v (.ins C fs us) f d = ((fs.zip us).lookup m = none ∧ oK (v.lookup C) f ()) := by
  unfold mtK oK
  simp only
  cases v.lookup C <;> rfl
end
section
variable (Γ : UEnv) (X : ExS) (k : U → MP) (kl : List U → MP) (σ : Sto)
def mtS (m : Str) (v : ZTab) (o : Option U) (f : (List U → ExS → (U → MP) → MP) → Prop) (_ : Dm f) : Prop := match o with
  | some (.ins C fs us) => (fs.zip us).lookup m = none ∧ match v.lookup C with
    | some p => f p
    | none => False
  | _ => False
@[simp ↓] theorem zMeth_def (m : Str) (v : ZTab) (g : List U → List U → List U) (po : VZ U) (pa pb : VZ (List U)) : zMeth m v g po pa pb Γ X k = po Γ X fun u σ => match u with
    | .ref n => mtS m v (σ n) (fun p => pa Γ X (fun as => pb Γ X fun ws => calZ p (g (.ref n :: as) ws) X k ()) σ) ()
    | _ => False := nrfl rfl
@[simp ↓] theorem zCatS_def (pa : VZ U) (pt : VZ (List U)) : zCatS pa pt Γ X kl = pa Γ X fun u => match u with
    | .ref n => pt Γ X fun ys σ => oLs (σ n) (fun xs => xs.length + ys.length ≤ line ∧ kl (xs ++ ys) σ) ()
    | _ => fun _ => False := nrfl rfl
end
end HV
namespace HV
open PySem PySem.Spec PyProof.Rows L2 HA
def vAddI (u v : U) (_ : ExK) (k : U → Prop) : Prop := match u, v with
  | .int i, .int j => k (.int (i + j))
  | _, _ => False
section
variable {K : Dks}
def qFin (p q : VQ) : VQ := fun Γ S => p Γ ⟨fun Γ1 => q Γ1 ⟨S.nx, S.rt, S.bk, S.ct, fun _ _ _ _ => False⟩, fun _ _ => False, fun _ _ => False, fun _ _ => False, fun c f Γ1 => q Γ1 ⟨fun Γ2 => S.ex c f Γ2, fun _ _ => False, fun _ _ => False, fun _ _ => False, fun _ _ _ _ => False⟩⟩
def qAug (po pi : VZ U) (j : Int) : VQ := fun Γ S => po Γ (fun a f => S.ex a f Γ) fun o => pi Γ (fun a f => S.ex a f Γ) fun kd σ => match o, kd with
  | .ref n, .int q => lstS σ n fun xs => match ixN xs.length q with
    | some i => match xs[i]? with
      | some (.int x) => S.nx Γ (updS σ n (.lst (xs.set i (.int (x + j)))))
      | _ => False
    | none => False
  | _, _ => False
def qUnl (pa : VZ U) (n : Nat) (t : List U → Option (List (Nat × U))) : VQ := fun Γ S => pa Γ (fun a f => S.ex a f Γ) fun o σ => match o with
  | .ref m => lstS σ m fun xs => xs.length = n ∧ match t xs with
    | some bs => S.nx (setU Γ bs) σ
    | none => False
  | _ => False
def zLCut (u : U) (lo hi : Option Int) (_ : ExS) (k : List U → MP) : MP := match u with
  | .ref n => fun σ => lstS σ n fun us => k (HA.cut us lo hi) σ
  | _ => fun _ => False
def zLenL (v : ZTab) : List U → ExS → (U → MP) → MP
  | [.ref n], _, k => fun σ => insS σ n fun C _ _ => match v.lookup C with
    | some p => p [.ref n] (fun _ _ _ => False) (fun r τ => ∃ i : Int, r = .int i ∧ (0 ≤ i ∧ i < 2 ^ 63) ∧ k (.int i) τ) σ
    | none => False
  | _, _, _ => fun _ => False
def zLenM (v : ZTab) (po : VZ U) : VZ U := z1 (zaCons po zaNil) (zLenL v)
end
section
variable (Γ : UEnv) (X : ExK) (k : U → Prop)
@[simp ↓] theorem vAddI_int (i j : Int) : vAddI (.int i) (.int j) X k = k (.int (i + j)) := nrfl rfl
end
section
variable (Γ : UEnv) (X : ExS) (k : U → MP) (kl : List U → MP) (σ : Sto) (nx : UEnv → MP) (rt : U → MP) (bk ct : UEnv → MP) (ex : Str → EF → UEnv → MP)
@[simp ↓] theorem qFin_def (p q : VQ) : qFin p q Γ ⟨nx, rt, bk, ct, ex⟩ = p Γ ⟨fun Γ1 => q Γ1 ⟨nx, rt, bk, ct, fun _ _ _ _ => False⟩, fun _ _ => False, fun _ _ => False, fun _ _ => False, fun c f Γ1 => q Γ1 ⟨fun Γ2 => ex c f Γ2, fun _ _ => False, fun _ _ => False, fun _ _ => False, fun _ _ _ _ => False⟩⟩ := nrfl rfl
def lmS (v : ZTab) (n : Nat) (k : U → MP) (o : Option U) (_ : Dm k) : MP := fun σ => match o with
  | some (.ins C _ _) => match v.lookup C with
    | some p => calZ p [.ref n] (fun _ _ _ => False) (fun r τ => ∃ i : Int, r = .int i ∧ (0 ≤ i ∧ i < 2 ^ 63) ∧ k (.int i) τ) () σ
    | none => False
  | _ => False
@[simp ↓] theorem zLenM_def (v : ZTab) (po : VZ U) : zLenM v po Γ X k = po Γ X fun u σ => match u with
    | .ref n => lmS v n k (σ n) () σ
    | _ => False := by
  unfold zLenM z1 zaCons z2 zaNil
  congr 1
  funext u σ
  cases u <;> rfl
theorem lmS_some (v : ZTab) (n : Nat) (C : Str) (fs : List Str) (us : List U) (d) : lmS v n k (some (.ins C fs us)) d σ = oK (v.lookup C) (fun p => calZ p [.ref n] (fun _ _ _ => False) (fun r τ => ∃ i : Int, r = .int i ∧ (0 ≤ i ∧ i < 2 ^ 63) ∧ k (.int i) τ) () σ) () := by
  unfold lmS oK
  simp only
  cases v.lookup C <;> rfl
@[simp ↓] theorem zLCut_ref (n : Nat) (lo hi : Option Int) : zLCut (.ref n) lo hi X kl σ = oLs (σ n) (fun us => kl (HA.cut us lo hi) σ) () := by
  unfold zLCut lstS oLs
  rfl
end
end HV
namespace HV
open PySem PySem.Spec PyProof.Rows L2 HA
def dKs (l : List (String × U)) : List Key := l.map fun p => .inr (Str.ofString p.1)
def dVs (l : List (String × U)) : List U := l.map (·.2)
def dS (l : List (String × U)) : U := .dK (dKs l) (dVs l)
def dLk : List (String × U) → Str → Option U
  | [], _ => none
  | p :: l, w => if Str.ofString p.1 = w then some p.2 else dLk l w
section
variable (Γ : UEnv) (X : ExK) (k : U → Prop) (kb : Bool → Prop)
end
end HV
namespace HA
open PySem PySem.Spec PyProof.Rows L2
end HA
namespace HV
section
open PySem PySem.Spec PyProof.Rows L2 HA
end
open PySem PySem.Spec PyProof.Rows L2 HA
section
variable {K : Dks}
def vStuck : VS := fun _ _ => False
def qStuck : VQ := fun _ _ _ => False
def dctS (σ : Sto) (n : Nat) (k : List Key → List U → Prop) : Prop := match σ n with
  | some (.dK ks us) => k ks us
  | _ => False
theorem OR.dct {ok : Nat → Prop} {ah : AH} {ks : List Key} {us : List U} {o : AObj} (h : OR ok ah (.dK ks us) o) : ∃ kvs, o = .dK kvs ∧ kvs.map (·.1) = ks ∧ Rs ok ah us (kvs.map (·.2)) := by
  cases o with
  | dK kvs => obtain ⟨a, b⟩ := h; exact ⟨kvs, rfl, a, b⟩
  | _ => exact h.elim
theorem StoR.dct {σ : Sto} {ah : AH} (st : StoR σ ah) {n : Nat} {ks : List Key} {us : List U} (e : σ n = some (.dK ks us)) : ∃ kvs, ah[n]? = some (.dK kvs) ∧ kvs.map (·.1) = ks ∧ Rs (okS σ) ah us (kvs.map (·.2)) := by
  obtain ⟨_, o, e2, r⟩ := st.at' n _ e
  obtain ⟨kvs, rfl, a, b⟩ := r.dct
  exact ⟨kvs, e2, a, b⟩
def zGetS : Z2o U
  | .ref n, kd, _, k => fun σ => dctS σ n fun ks us => match uKey kd with
    | some kk => match uVal ks us kk with
      | some u => k u σ
      | none => False
    | none => False
  | _, _, _, _ => fun _ => False
def qPut (pi po pv : VZ U) : VQ := fun Γ S => pv Γ (fun a f => S.ex a f Γ) fun v => po Γ (fun a f => S.ex a f Γ) fun o => pi Γ (fun a f => S.ex a f Γ) fun kd σ => match o, uKey kd with
  | .ref n, some key => dctS σ n fun ks us => ks.length < line ∧ S.nx Γ (updS σ n (uPut ks us key v))
  | _, _ => False
def zPairs : List (VZ U × VZ U) → VZ (List (U × U))
  | [] => fun _ _ k => k []
  | (a, b) :: r => fun Γ X k => a Γ X fun x => b Γ X fun y => zPairs r Γ X fun ps => k ((x, y) :: ps)
instance : Inb RPr := ⟨fun h => ⟨Rs.inb _ _ h.1, Rs.inb _ _ h.2⟩⟩
def zDispS (l : List (VZ U × VZ U)) : VZ U := fun Γ X k => zPairs l Γ X fun ps σ => match optAll (fun p => (uKey p.1).map fun kk => (kk, p.2)) ps with
  | some kvs => kvs.length ≤ 15 ∧ ∀ n, 3 ≤ n → σ n = none → k (.ref n) (updS σ n (uDisp kvs [] []))
  | none => False
end
section
variable (Γ : UEnv) (X : ExS) (k : U → MP) (σ : Sto) (nx : UEnv → MP) (rt : U → MP) (bk ct : UEnv → MP) (ex : Str → EF → UEnv → MP)
def oDs (o : Option U) (k : List Key → List U → Prop) (_ : Dm k) : Prop := match o with
  | some (.dK ks us) => k ks us
  | _ => False
@[simp ↓] theorem zGetS_ref (n : Nat) (w : Str) : zGetS (.ref n) (.str w) X k σ = oDs (σ n) (fun ks us => oK (uVal ks us (.inr w)) (fun u => k u σ) ()) () := by
  unfold zGetS dctS oDs uKey
  simp only
  congr 1
  funext ks us
  cases uVal ks us (Sum.inr w : Key) <;> rfl
@[simp ↓] theorem qPut_def (pi po pv : VZ U) : qPut pi po pv Γ ⟨nx, rt, bk, ct, ex⟩ = pv Γ (fun a f => ex a f Γ) fun v => po Γ (fun a f => ex a f Γ) fun o => pi Γ (fun a f => ex a f Γ) fun kd σ => match o with
    | .ref n => oK (uKey kd) (fun key => oDs (σ n) (fun ks us => ks.length < line ∧ nx Γ (updS σ n (uPut ks us key v))) ()) ()
    | _ => False := by
  unfold qPut
  congr 1
  funext v
  congr 1
  funext o
  congr 1
  funext kd σ
  cases o <;> cases uKey kd <;> rfl
@[simp ↓] theorem qUnl_def (pa : VZ U) (n : Nat) (t : List U → Option (List (Nat × U))) : qUnl pa n t Γ ⟨nx, rt, bk, ct, ex⟩ = pa Γ (fun a f => ex a f Γ) fun o σ => match o with
    | .ref m => oLs (σ m) (fun xs => xs.length = n ∧ oK (t xs) (fun bs => nxZ nx (setU Γ bs) σ ()) ()) ()
    | _ => False := by
  unfold qUnl
  congr 1
  funext o σ
  cases o with
  | ref m =>
    show lstS σ m _ = _
    unfold lstS oLs
    congr 1
    funext xs
    dsimp only
    congr 1
    cases t xs <;> rfl
  | _ => rfl
end
end HV
namespace HV
open PySem PySem.Spec PyProof.Rows L2 HA
def zPt (u : U) (_ : ExS) (k : Option Int → MP) : MP := match u with
  | .int i => k (some i)
  | _ => fun _ => False
def zPart (p : VZ U) : VZ (Option Int) := z1 p zPt
section
variable {K : Dks}
end
section
variable (Γ : UEnv) (X : ExS) (k : Option Int → MP)
@[simp ↓] theorem zPart_def (p : VZ U) : zPart p Γ X k = p Γ X fun u => zPt u X k := nrfl rfl
@[simp] theorem zPt_int (i : Int) : zPt (.int i) X k = k (some i) := nrfl rfl
end
end HV
namespace HV
open PySem PySem.Spec PyProof.Rows L2 HA
def relS (σ : Sto) (n : Nat) : Sto := fun m => if m = n then none else σ m
def zValO (u : U) (k : U → MP) : MP := match u with
  | .ref n => fun σ => lstS σ n fun us => k (.lst us) (relS σ n)
  | u => k u
def zVal (p : VZ U) : VZ U := fun Γ X k => p Γ X fun u => zValO u k
section
variable {K : Dks}
end
section
variable (Γ : UEnv) (X : ExS) (k : U → MP)
@[simp ↓] theorem zVal_def (p : VZ U) : zVal p Γ X k = p Γ X fun u => zValO u k := nrfl rfl
theorem zValO_ref {n : Nat} {us : List U} {σ : Sto} (h : σ n = some (.lst us)) : zValO (.ref n) k σ = k (.lst us) (relS σ n) := by
  show lstS σ n (fun us => k (.lst us) (relS σ n)) = _
  unfold lstS
  rw [h]
end
end HV
namespace HV
open PySem PySem.Spec PyProof.Rows L2 HA
def vGtB : V2o Bool
  | .bl b, .int j, _, k => k (decide (j < dI b))
  | .int i, .int j, _, k => k (decide (j < i))
  | _, _, _, _ => False
variable {K : Dks}
@[simp ↓] theorem vGtB_int (i j : Int) (X : ExK) (kb : Bool → Prop) : vGtB (.int i) (.int j) X kb = kb (decide (j < i)) := nrfl rfl
@[simp ↓] theorem vGtB_bl (b : Bool) (j : Int) (X : ExK) (kb : Bool → Prop) : vGtB (.bl b) (.int j) X kb = kb (decide (j < dI b)) := nrfl rfl
end HV
namespace HV
open PySem PySem.Spec PyProof.Rows L2 HA
def zDGet2 (pm pk px : VZ U) : VZ U := fun Γ X k => pm Γ X fun u σ => (∃ ks us, u = .dK ks us) ∧ pk Γ X (fun kd => px Γ X fun z σ => vDGet u kd z fun r => k r σ) σ
section
variable {K : Dks}
end
section
variable (Γ : UEnv) (X : ExS) (k : U → MP)
@[simp ↓] theorem zDGet2_def (pm pk px : VZ U) : zDGet2 pm pk px Γ X k = pm Γ X fun u σ => (∃ ks us, u = .dK ks us) ∧ pk Γ X (fun kd => px Γ X fun z σ => vDGet u kd z fun r => k r σ) σ := nrfl rfl
end
end HV
namespace HV
open PySem PySem.Spec PyProof.Rows L2 HA
def vIntS : List U → ExK → (U → Prop) → Prop
  | [.int i], _, k => k (.int i)
  | [.bl b], _, k => k (.int (if b then 1 else 0))
  | [.str a], _, k => a.length ≤ 640 ∧ match PySem.intText? a with
      | some n => k (.int n)
      | none => False
  | _, _, _ => False
variable {K : Dks}
section
variable (X : ExK) (k : U → Prop)
@[simp ↓] theorem vIntS_int (i : Int) : vIntS [.int i] X k = k (.int i) := nrfl rfl
@[simp ↓] theorem vIntS_bl (b : Bool) : vIntS [.bl b] X k = k (.int (if b then 1 else 0)) := nrfl rfl
theorem vIntS_str {a : Str} {n : Int} (h : PySem.intText? a = some n) (hl : a.length ≤ 640) : vIntS [.str a] X k = k (.int n) := by
  show (a.length ≤ 640 ∧ (match PySem.intText? a with | some n => k (.int n) | none => False)) = _
  rw [h, eq_true hl, true_and]
end
end HV
namespace HV
open PySem PySem.Spec PyProof.Rows L2 HA
def vCountS : U → List U → ExK → (U → Prop) → Prop
  | .str a, [.str b], _, k => k (.int (Txt.count a b))
  | _, _, _, _ => False
def vChars : U → ExK → (List U → Prop) → Prop
  | .str z, _, k => z.length ≤ line ∧ k (charsU z)
  | _, _, _ => False
variable {K : Dks}
@[simp ↓] theorem vCountS_def (X : ExK) (k : U → Prop) (a b : Str) : vCountS (.str a) [.str b] X k = k (.int (Txt.count a b)) := nrfl rfl
@[simp ↓] theorem vChars_str (X : ExK) (k : List U → Prop) (z : Str) : vChars (.str z) X k = (z.length ≤ line ∧ k (charsU z)) := nrfl rfl
end HV
namespace HV
open PySem PySem.Spec PyProof.Rows L2 HA
def pairU : U → Option (Key × U)
  | .tup [a, b] => (uKey a).map fun kk => (kk, b)
  | _ => none
def vDictP (pl : VE (List U)) : VE U := fun Γ X k => pl Γ X fun us => match optAll pairU us with
  | some kvs => k (uDisp kvs [] [])
  | none => False
variable {K : Dks}
theorem prs_key {ok : Nat → Prop} {ah : AH} : ∀ (us : List U) (ds : List D) (kus : List (Key × U)), Rs ok ah us ds → optAll pairU us = some kus → ∃ kds, optAll HA.pairD ds = some kds ∧ kus.map (·.1) = kds.map (·.1) ∧ Rs ok ah (kus.map (·.2)) (kds.map (·.2))
  | [], ds, kus, r, h => by
    simp only [Rs] at r
    subst r
    unfold optAll at h
    cases h
    exact ⟨[], rfl, rfl, Rs.nil⟩
  | u :: us, ds, kus, r, h => by
    simp only [Rs] at r
    obtain ⟨d, es, rfl, q, r⟩ := r
    unfold optAll at h
    split at h
    · rename_i kv bs hb hbs
      cases h
      unfold pairU at hb
      split at hb
      · rename_i a b
        obtain ⟨kk, hk, rfl⟩ := Option.map_eq_some_iff.mp hb
        have q' : R ok ah (.tup [a, b]) d := q
        simp only [R] at q'
        obtain ⟨ds', rfl, q'⟩ := q'
        simp only [Rs] at q'
        obtain ⟨x, _, rfl, qa, y, _, rfl, qb, rfl⟩ := q'
        obtain ⟨kds, h1, h2, h3⟩ := prs_key us es bs r hbs
        refine ⟨(kk, y) :: kds, ?_, by simp [h2], Rs.cons qb h3⟩
        unfold optAll
        have : HA.pairD (.tup [x, y]) = some (kk, y) := by
          unfold HA.pairD
          simp only [uKey_d qa hk, Option.map_some]
        rw [this, h1]
      · cases hb
    · cases h
theorem ln_dict {c : Nat} {ml : EM (List D)} {pl : VE (List U)} (h : LE K RUs c ml pl) : LN (K := K) c (e1 ml sDict) (vDictP pl) := ⟨fun {ok Γ env ah N X k} o e kk l x => by
  have w := h.to o e kk l x
  unfold e1
  cases z : ml env ah with
  | ok ds ah1 =>
    rw [z] at w
    obtain ⟨us, h1, r1, h3, h4⟩ := w
    simp only [Res.bind]
    split at h1
    · rename_i kus hk
      obtain ⟨kds, f1, f2, f3⟩ := prs_key us ds kus r1 hk
      unfold sDict
      rw [f1]
      simp only
      have hor := uDisp_D (ok := fun m => ok m ∧ m ≠ ah1.length) (ah := ah1 ++ [.dK (dispD kds)]) kus kds [] [] [] f2 (Rs.mono (fun n a => ⟨a.1, by have := a.2; omega⟩) (fun n o a e => by rw [List.getElem?_append_left a.2]; exact e) _ _ (Rs.inb _ _ f3)) ⟨rfl, Rs.nil⟩
      exact ⟨_, _, _, h1, rfl, h3.len, (by simp; rfl), hor, h3.trans Grow.app, K.app _ h4⟩
    · exact h1.elim
  | exn a fs ah1 => rw [z] at w; exact w
  | stuck => rw [z] at w; exact w⟩
@[simp ↓] theorem vDictP_def (pl : VE (List U)) (Γ : UEnv) (X : ExK) (k : U → Prop) : vDictP pl Γ X k = pl Γ X fun us => oK (optAll pairU us) (fun kvs => k (uDisp kvs [] [])) () := by
  unfold vDictP
  congr 1
  funext us
  cases optAll pairU us <;> rfl
end HV
namespace HV
open PySem PySem.Spec PyProof.Rows L2 HA
def qTail (pi po : VZ U) (pv : VZ U) : VQ := fun Γ S => pv Γ (fun a f => S.ex a f Γ) fun v => po Γ (fun a f => S.ex a f Γ) fun o => pi Γ (fun a f => S.ex a f Γ) fun kd σ => match o, kd, v with
  | .ref n, .int i, .lst ys => lstS σ n fun xs => 0 ≤ i ∧ i ≤ xs.length ∧ xs.length + ys.length ≤ line ∧ S.nx Γ (updS σ n (.lst (xs.take i.toNat ++ ys)))
  | _, _, _ => False
variable {K : Dks}
variable {Γ : UEnv} (nx : UEnv → MP) (rt : U → MP) (bk ct : UEnv → MP) (ex : Str → EF → UEnv → MP)
def tailS (n : Nat) (i : Int) (v : U) (σ : Sto) (k : Sto → Prop) : Prop := match v with
  | .lst ys => oLs (σ n) (fun xs => 0 ≤ i ∧ i ≤ xs.length ∧ xs.length + ys.length ≤ line ∧ k (updS σ n (.lst (xs.take i.toNat ++ ys)))) ()
  | _ => False
@[simp ↓] theorem qTail_def (pi po pv : VZ U) : qTail pi po pv Γ ⟨nx, rt, bk, ct, ex⟩ = pv Γ (fun a f => ex a f Γ) fun v => po Γ (fun a f => ex a f Γ) fun o => pi Γ (fun a f => ex a f Γ) fun kd σ => match o with
  | .ref n => oI kd (fun i => tailS n i v σ (fun τ => nxZ nx Γ τ ())) ()
  | _ => False := by
  unfold qTail
  congr 1; funext v; congr 1; funext o; congr 1; funext kd σ
  cases o <;> try rfl
  cases kd <;> try rfl
  cases v <;> rfl
theorem tailS_some {n : Nat} {i : Int} {xs ys : List U} {σ : Sto} {k : Sto → Prop} (h : σ n = some (.lst xs)) (h0 : 0 ≤ i) (h1 : i ≤ xs.length) (h2 : xs.length + ys.length ≤ 16777216) : tailS n i (.lst ys) σ k = k (updS σ n (.lst (xs.take i.toNat ++ ys))) := by
  unfold tailS
  dsimp only
  rw [h]
  show (0 ≤ i ∧ i ≤ xs.length ∧ xs.length + ys.length ≤ line ∧ k _) = k _
  rw [eq_true h0, eq_true h1, eq_true (show xs.length + ys.length ≤ line from h2), true_and, true_and, true_and]
section
variable {α : Type}
def zSnap (j : Nat) (p : VE α) : VZ α := fun Γ X k σ => match Γ[j]? with
  | some (some (.ref n)) => lstS σ n fun us => p (Γ.set j (some (.lst us))) (fun _ _ => False) fun a => k a σ
  | _ => False
end
end HV
set_option exponentiation.threshold 7000
namespace HL
open PySem PySem.Spec PyProof.Rows L2 HA HV
abbrev KK : Dks := dksB
def pb_is_whole : VS := (vRet (vEAnd (v1 (vaCons (vVar 0) (vaCons (vC (.cst (.ty "int"))) vaNil)) vIsi) (vENot (v1 (vaCons (vVar 0) (vaCons (vC (.cst (.ty "bool"))) vaNil)) vIsi))))
def p_is_whole : List U → ExK → (U → Prop) → Prop := vFn 1 1 pb_is_whole
theorem l_is_whole : LF KK 0 m_is_whole p_is_whole := (lf_fn (mb := b_is_whole) (pb := pb_is_whole)
    (ls_ret (le_eand (le_1 (le_acons (le_var 0) (le_acons (le_c _) le_anil)) lo_isi) (le_enot (le_1 (le_acons (le_var 0) (le_acons (le_c _) le_anil)) lo_isi))))).weak (by decide +kernel)
def pb_is_within : VS := (vRet (vEAnd (vCal (vaCons (vVar 0) vaNil) p_is_whole) (vB (vChain (vVar 1) (vVar 0) (vVar 2) vLe vLe))))
def p_is_within : List U → ExK → (U → Prop) → Prop := vFn 3 3 pb_is_within
theorem l_is_within : LF KK 0 m_is_within p_is_within := (lf_fn (mb := b_is_within) (pb := pb_is_within)
    (ls_ret (le_eand (le_1 (le_acons (le_var 0) le_anil) l_is_whole) (le_B (le_chain (le_var 1) (le_var 0) (le_var 2) lo_le lo_le))))).weak (by decide +kernel)
def pb_inner_of : VS := (vSeq (vIfS (v2 (v2 (vVar 0) (vC (.int 0)) vIx) (vC c_IF) vEq) (vRet (v3 (vVar 0) (vPart (some (vC (.int 2)))) (vPart none) vCut)) vSkip) (vSeq (vIfS (v2 (v2 (vVar 0) (vC (.int 0)) vIx) (vC c_AGAIN) vEq) (vRet (v3 (vVar 0) (vPart (some (vC (.int 2)))) (vPart none) vCut)) vSkip) (vRet (vTup vaNil))))
def p_inner_of : List U → ExK → (U → Prop) → Prop := vFn 1 1 pb_inner_of
theorem l_inner_of : LF KK 0 m_inner_of p_inner_of := (lf_fn (mb := b_inner_of) (pb := pb_inner_of)
    (ls_seq (own1 := []) (ls_if (le_2 (le_2 (le_var 0) (le_c _) lo_ix) (le_c _) lo_eq) (ls_ret (le_3 (le_var 0) (le_psome (le_c _)) le_pnone lo_cut)) ls_skip)
    (ls_seq (own1 := []) (ls_if (le_2 (le_2 (le_var 0) (le_c _) lo_ix) (le_c _) lo_eq) (ls_ret (le_3 (le_var 0) (le_psome (le_c _)) le_pnone lo_cut)) ls_skip)
    (ls_ret (le_tup le_anil))))).weak (by decide +kernel)
def pb_rows_in (q_rows_in : List U → ExK → (U → Prop) → Prop) : VS := (vRet (v2 (v1 (vaCons (vVar 0) vaNil) vLenA) (v1 (v1 (vLc2 (v1 (vVar 0) vSeqOf) (tSet 1) vYes (v1 (vCal (vaCons (vVar 1) vaNil) p_inner_of) vSeqOf) (tSet 2) vYes (vCal (vaCons (vVar 2) vaNil) q_rows_in) [1, 2] [2]) vListOf) vSum) vAdd))
def p_rows_in : Nat → List U → ExK → (U → Prop) → Prop
  | 0 => fun _ _ _ => False
  | n + 1 => vFn 3 1 (pb_rows_in (p_rows_in n))
theorem l_rows_in : ∀ n : Nat, LF KK 0 (m_rows_in n) (p_rows_in n)
  | 0 => lf_stuck
  | n + 1 => by
    have Q_rows_in := l_rows_in n
    exact (lf_fn (mb := b_rows_in (m_rows_in n)) (pb := pb_rows_in (p_rows_in n))
    (ls_ret (le_2 (le_1 (le_acons (le_var 0) le_anil) lo_len) (le_1 (le_1 (ln_le (ln_lc2 (le_1 (le_var 0) lo_ival) (lt_set 1) le_yes (le_1 (le_1 (le_acons (le_var 1) le_anil) l_inner_of) lo_ival) (lt_set 2) le_yes (le_1 (le_acons (le_var 2) le_anil) Q_rows_in))) lo_listOf) lo_sum) lo_add))).weak (by decide +kernel)
def pb_is_number_below : VS := (vRet (vCal (vaCons (vVar 0) (vaCons (vC (.int 0)) (vaCons (v2 (vVar 1) (vC (.int 1)) vSub) vaNil))) p_is_within))
def p_is_number_below : List U → ExK → (U → Prop) → Prop := vFn 2 2 pb_is_number_below
theorem l_is_number_below : LF KK 0 m_is_number_below p_is_number_below := (lf_fn (mb := b_is_number_below) (pb := pb_is_number_below)
    (ls_ret (le_1 (le_acons (le_var 0) (le_acons (le_c _) (le_acons (le_2 (le_var 1) (le_c _) lo_sub) le_anil))) l_is_within))).weak (by decide +kernel)
def pb_rows_around : VS := (vSeq (vIfS (vOr (vNot (v1 (v1 (vaCons (vVar 1) (vaCons (vC (.cst (.ty "tuple"))) vaNil)) vIsi) vTruth)) (v2 (v2 (v1 (vaCons (vVar 1) vaNil) vLenA) (vC (.int 2)) vMod) (vC (.int 0)) vEq)) (vRet (vC (.non))) vSkip) (vSeq (vAsg [] (vVar 0) (tSet 2)) (vSeq (vFor [] (v3 (vC (.int 0)) (v2 (v1 (vaCons (vVar 1) vaNil) vLenA) (vC (.int 1)) vSub) (vC (.int 2)) vIR3) (tSet 3) (vSeq (vAsg [] (v3 (vVar 1) (vPart (some (vVar 3))) (vPart (some (v2 (vVar 3) (vC (.int 2)) vAdd))) vCut) (tTup 2 (tCons (tSet 5) (tCons (tSet 6) tNil)))) (vSeq (vIfS (vNot (v1 (vCal (vaCons (vVar 5) (vaCons (v1 (vaCons (vVar 2) vaNil) vLenA) vaNil)) p_is_number_below) vTruth)) (vRet (vC (.non))) vSkip) (vSeq (vAsg [] (vCal (vaCons (v2 (vVar 2) (vVar 5) vIx) vaNil) p_inner_of) (tSet 4)) (vSeq (vIfS (vNot (v1 (vCal (vaCons (vVar 6) (vaCons (v1 (vaCons (vVar 4) vaNil) vLenA) vaNil)) p_is_number_below) vTruth)) (vRet (vC (.non))) vSkip) (vAsg [] (v2 (vVar 4) (vVar 6) vIx) (tSet 2))))))) (vRet (vVar 2)))))
def p_rows_around : List U → ExK → (U → Prop) → Prop := vFn 7 2 pb_rows_around
theorem l_rows_around : LF KK 0 m_rows_around p_rows_around := (lf_fn (mb := b_rows_around) (pb := pb_rows_around)
    (ls_seq (own1 := []) (ls_if (le_or (le_not (le_1 (le_1 (le_acons (le_var 1) (le_acons (le_c _) le_anil)) lo_isi) lo_truth)) (le_2 (le_2 (le_1 (le_acons (le_var 1) le_anil) lo_len) (le_c _) lo_mod) (le_c _) lo_eq)) (ls_ret (le_c _)) ls_skip)
    (ls_seq (own1 := []) (ls_asg (le_var 0) (lt_set 2))
    (ls_seq (own1 := []) (ls_for (le_3 (le_c _) (le_2 (le_1 (le_acons (le_var 1) le_anil) lo_len) (le_c _) lo_sub) (le_c _) lo_irange3) (lt_set 3) (ls_seq (own1 := []) (ls_asg (le_3 (le_var 1) (le_psome (le_var 3)) (le_psome (le_2 (le_var 3) (le_c _) lo_add)) lo_cut) (lt_tup (lt_cons (lt_set 5) (lt_cons (lt_set 6) lt_nil))))
    (ls_seq (own1 := []) (ls_if (le_not (le_1 (le_1 (le_acons (le_var 5) (le_acons (le_1 (le_acons (le_var 2) le_anil) lo_len) le_anil)) l_is_number_below) lo_truth)) (ls_ret (le_c _)) ls_skip)
    (ls_seq (own1 := []) (ls_asg (le_1 (le_acons (le_2 (le_var 2) (le_var 5) lo_ix) le_anil) l_inner_of) (lt_set 4))
    (ls_seq (own1 := []) (ls_if (le_not (le_1 (le_1 (le_acons (le_var 6) (le_acons (le_1 (le_acons (le_var 4) le_anil) lo_len) le_anil)) l_is_number_below) lo_truth)) (ls_ret (le_c _)) ls_skip)
    (ls_asg (le_2 (le_var 4) (le_var 6) lo_ix) (lt_set 2)))))))
    (ls_ret (le_var 2)))))).weak (by decide +kernel)
def pb_row_at : VS := (vSeq (vAsg [] (vCal (vaCons (vVar 0) (vaCons (vVar 1) vaNil)) p_rows_around) (tSet 2)) (vSeq (vIfS (vOr (v2 (vVar 2) (vC (.non)) vIs) (vNot (v1 (vCal (vaCons (v2 (vVar 1) (v1 (vC (.int 1)) vNeg) vIx) (vaCons (v1 (vaCons (vVar 2) vaNil) vLenA) vaNil)) p_is_number_below) vTruth))) (vRet (vC (.non))) vSkip) (vRet (v2 (vVar 2) (v2 (vVar 1) (v1 (vC (.int 1)) vNeg) vIx) vIx))))
def p_row_at : List U → ExK → (U → Prop) → Prop := vFn 3 2 pb_row_at
theorem l_row_at : LF KK 0 m_row_at p_row_at := (lf_fn (mb := b_row_at) (pb := pb_row_at)
    (ls_seq (own1 := []) (ls_asg (le_1 (le_acons (le_var 0) (le_acons (le_var 1) le_anil)) l_rows_around) (lt_set 2))
    (ls_seq (own1 := []) (ls_if (le_or (le_2 (le_var 2) (le_c _) lo_is) (le_not (le_1 (le_1 (le_acons (le_2 (le_var 1) (le_1 (le_c _) lo_neg) lo_ix) (le_acons (le_1 (le_acons (le_var 2) le_anil) lo_len) le_anil)) l_is_number_below) lo_truth))) (ls_ret (le_c _)) ls_skip)
    (ls_ret (le_2 (le_var 2) (le_2 (le_var 1) (le_1 (le_c _) lo_neg) lo_ix) lo_ix))))).weak (by decide +kernel)
def p__law_draw : List U → ExK → (U → Prop) → Prop := vDraw
theorem l__law_draw : LF KK 1 m__law_draw p__law_draw := lf_drawB
def pb__law_pick : VS := (vRet (v2 (vVar 1) (v1 (vaCons (vVar 0) (vaCons (v1 (vaCons (vVar 1) vaNil) vLenA) vaNil)) p__law_draw) vIx))
def p__law_pick : List U → ExK → (U → Prop) → Prop := vFn 2 2 pb__law_pick
theorem l__law_pick : LF KK 1 m__law_pick p__law_pick := (lf_fn (mb := b__law_pick) (pb := pb__law_pick)
    (ls_ret (le_2 (le_var 1) (le_1 (le_acons (le_var 0) (le_acons (le_1 (le_acons (le_var 1) le_anil) lo_len) le_anil)) l__law_draw) lo_ix))).weak (by decide +kernel)
def pb__law_number : VS := (vRet (v2 (vLst (vaCons (vC (.int 0)) (vaCons (vC (.int 1)) (vaCons (v1 (vaCons (vVar 0) (vaCons (vC (.int 12)) vaNil)) p__law_draw) (vaCons (v2 (vC (.int 999)) (v1 (vaCons (vVar 0) (vaCons (vC (.int 2)) vaNil)) p__law_draw) vSub) (vaCons (v1 (vaCons (vVar 0) (vaCons (vC (.int 1000)) vaNil)) p__law_draw) vaNil)))))) (v1 (vaCons (vVar 0) (vaCons (vC (.int 5)) vaNil)) p__law_draw) vLIx))
def p__law_number : List U → ExK → (U → Prop) → Prop := vFn 1 1 pb__law_number
theorem l__law_number : LF KK 4 m__law_number p__law_number := (lf_fn (mb := b__law_number) (pb := pb__law_number)
    (ls_ret (le_2 (le_lst (le_acons (le_c _) (le_acons (le_c _) (le_acons (le_1 (le_acons (le_var 0) (le_acons (le_c _) le_anil)) l__law_draw) (le_acons (le_2 (le_c _) (le_1 (le_acons (le_var 0) (le_acons (le_c _) le_anil)) l__law_draw) lo_sub) (le_acons (le_1 (le_acons (le_var 0) (le_acons (le_c _) le_anil)) l__law_draw) le_anil)))))) (le_1 (le_acons (le_var 0) (le_acons (le_c _) le_anil)) l__law_draw) lo_lix))).weak (by decide +kernel)
def pb__law_operand : VS := (vRet (v2 (vLst (vaCons (vCal (vaCons (vVar 0) vaNil) p__law_number) (vaCons (vCal (vaCons (vVar 0) (vaCons (vC (.str "abcdefgh")) vaNil)) p__law_pick) (vaCons (vCal (vaCons (vVar 0) (vaCons (vC (.str "abcdefgh")) vaNil)) p__law_pick) vaNil)))) (v1 (vaCons (vVar 0) (vaCons (vC (.int 3)) vaNil)) p__law_draw) vLIx))
def p__law_operand : List U → ExK → (U → Prop) → Prop := vFn 1 1 pb__law_operand
theorem l__law_operand : LF KK 6 m__law_operand p__law_operand := (lf_fn (mb := b__law_operand) (pb := pb__law_operand)
    (ls_ret (le_2 (le_lst (le_acons (le_1 (le_acons (le_var 0) le_anil) l__law_number) (le_acons (le_1 (le_acons (le_var 0) (le_acons (le_c _) le_anil)) l__law_pick) (le_acons (le_1 (le_acons (le_var 0) (le_acons (le_c _) le_anil)) l__law_pick) le_anil)))) (le_1 (le_acons (le_var 0) (le_acons (le_c _) le_anil)) l__law_draw) lo_lix))).weak (by decide +kernel)
def pb__law_straight : VS := (vSeq (vAsg [] (vCal (vaCons (vVar 0) (vaCons (vMs (vC (.str "let sum less tell room free move back read put same under show guess")) (vaCons (vC (.str " ")) vaNil) vSplit) vaNil)) p__law_pick) (tSet 1)) (vSeq (vPar3 [] 2 3 4 (vaCons (vCal (vaCons (vVar 0) (vaCons (vC (.str "abcdefgh")) vaNil)) p__law_pick) (vaCons (vCal (vaCons (vVar 0) vaNil) p__law_operand) (vaCons (vCal (vaCons (vVar 0) vaNil) p__law_operand) vaNil)))) (vSeq (vIfS (v2 (vVar 1) (vC (.str "room")) vEq) (vRet (vTup (vaCons (vC (.str "room")) (vaCons (vVar 2) (vaCons (v2 (vC (.int 1)) (v1 (vaCons (vVar 0) (vaCons (vC (.int 8)) vaNil)) p__law_draw) vAdd) vaNil))))) vSkip) (vSeq (vIfS (v2 (vVar 1) (vTup (vaCons (vC (.str "tell")) (vaCons (vC (.str "free")) vaNil))) vIn) (vRet (vTup (vaCons (vVar 1) (vaCons (vVar 3) vaNil)))) vSkip) (vSeq (vIfS (v2 (vVar 1) (vC (.str "put")) vEq) (vRet (vTup (vaCons (vVar 1) (vaCons (vVar 3) (vaCons (vVar 4) vaNil))))) vSkip) (vSeq (vIfS (v2 (vVar 1) (vTup (vaCons (vC (.str "let")) (vaCons (vC (.str "read")) (vaCons (vC (.str "show")) (vaCons (vC (.str "guess")) vaNil))))) vIn) (vRet (vTup (vaCons (vVar 1) (vaCons (vVar 2) (vaCons (vVar 3) vaNil))))) vSkip) (vRet (vTup (vaCons (vVar 1) (vaCons (vVar 2) (vaCons (vVar 3) (vaCons (vVar 4) vaNil))))))))))))
def p__law_straight : List U → ExK → (U → Prop) → Prop := vFn 5 1 pb__law_straight
theorem l__law_straight : LF KK 10 m__law_straight p__law_straight := (lf_fn (mb := b__law_straight) (pb := pb__law_straight)
    (ls_seq (own1 := []) (ls_asg (le_1 (le_acons (le_var 0) (le_acons (ln_le (ln_split (le_c _) (le_acons (le_c _) le_anil))) le_anil)) l__law_pick) (lt_set 1))
    (ls_seq (own1 := []) (ls_par3 (le_acons (le_1 (le_acons (le_var 0) (le_acons (le_c _) le_anil)) l__law_pick) (le_acons (le_1 (le_acons (le_var 0) le_anil) l__law_operand) (le_acons (le_1 (le_acons (le_var 0) le_anil) l__law_operand) le_anil))))
    (ls_seq (own1 := []) (ls_if (le_2 (le_var 1) (le_c _) lo_eq) (ls_ret (le_tup (le_acons (le_c _) (le_acons (le_var 2) (le_acons (le_2 (le_c _) (le_1 (le_acons (le_var 0) (le_acons (le_c _) le_anil)) l__law_draw) lo_add) le_anil))))) ls_skip)
    (ls_seq (own1 := []) (ls_if (le_2 (le_var 1) (le_tup (le_acons (le_c _) (le_acons (le_c _) le_anil))) lo_in) (ls_ret (le_tup (le_acons (le_var 1) (le_acons (le_var 3) le_anil)))) ls_skip)
    (ls_seq (own1 := []) (ls_if (le_2 (le_var 1) (le_c _) lo_eq) (ls_ret (le_tup (le_acons (le_var 1) (le_acons (le_var 3) (le_acons (le_var 4) le_anil))))) ls_skip)
    (ls_seq (own1 := []) (ls_if (le_2 (le_var 1) (le_tup (le_acons (le_c _) (le_acons (le_c _) (le_acons (le_c _) (le_acons (le_c _) le_anil))))) lo_in) (ls_ret (le_tup (le_acons (le_var 1) (le_acons (le_var 2) (le_acons (le_var 3) le_anil))))) ls_skip)
    (ls_ret (le_tup (le_acons (le_var 1) (le_acons (le_var 2) (le_acons (le_var 3) (le_acons (le_var 4) le_anil))))))))))))).weak (by decide +kernel)
def qb__law_row (q__law_row : List U → ExS → (U → MP) → MP) (q__law_rows : List U → ExS → (U → MP) → MP) : VQ := (qSeq (qAsg (zE (v1 (vaCons (vVar 0) (vaCons (vC (.int 6)) vaNil)) p__law_draw)) (tSet 3)) (qSeq (qSetL (zE (vC (.int 0))) (zE (vVar 2)) (z2 (z2 (zE (vVar 2)) (zE (vC (.int 0))) zIx) (zE (vC (.int 1))) (zO2 vSub))) (qSeq (qIf (zE (vOr (v2 (vVar 3) (vC (.int 4)) vLt) (v2 (vVar 1) (vC (.int 0)) vEq))) (qRet (zE (vCal (vaCons (vVar 0) vaNil) p__law_straight))) qSkip) (qSeq (qIf (zE (v2 (vVar 3) (vC (.int 4)) vEq)) (qRet (zTup (zaCons (zE (vC (.str "again"))) (zaCons (zE (v1 (vaCons (vVar 0) (vaCons (vC (.int 6)) vaNil)) p__law_draw)) (zaCons (zCal (zaCons (zE (vVar 0)) (zaCons (zE (v2 (vVar 1) (vC (.int 1)) vSub)) (zaCons (zE (vVar 2)) (zaCons (zE (vC (.int 0))) zaNil)))) q__law_rows) zaNil))))) qSkip) (qRet (zTup (zaCons (zE (vC (.str "if"))) (zaCons (zE (vCal (vaCons (vVar 0) vaNil) p__law_operand)) (zaCons (zCal (zaCons (zE (vVar 0)) (zaCons (zE (v2 (vVar 1) (vC (.int 1)) vSub)) (zaCons (zE (vVar 2)) (zaCons (zE (vC (.int 0))) zaNil)))) q__law_rows) (zaCons (zCal (zaCons (zE (vVar 0)) (zaCons (zE (v2 (vVar 1) (vC (.int 1)) vSub)) (zaCons (zE (vVar 2)) (zaCons (zE (vC (.int 0))) zaNil)))) q__law_rows) zaNil))))))))))
def qb__law_rows (q__law_row : List U → ExS → (U → MP) → MP) (q__law_rows : List U → ExS → (U → MP) → MP) : VQ := (qSeq (qAsg (zNewS (zE (vLst vaNil))) (tSet 4)) (qSeq (qForB (zE (v1 (v2 (vVar 3) (v1 (vaCons (vVar 0) (vaCons (vC (.int 4)) vaNil)) p__law_draw) vAdd) vIR1)) (tSet 5) (qIf (z2 (z2 (zE (vVar 2)) (zE (vC (.int 0))) zIx) (zE (vC (.int 0))) (zO2 vGt)) (qExpr (zMt (zE (vVar 4)) (zaCons (zCal (zaCons (zE (vVar 0)) (zaCons (zE (vVar 1)) (zaCons (zE (vVar 2)) zaNil))) q__law_row) zaNil) vAppend)) qSkip)) (qRet (z1 (z1 (zE (vVar 4)) zSeqOf) (zO1 vTupOf)))))
mutual
def p__law_row : Nat → List U → ExS → (U → MP) → MP
  | 0 => fun _ _ _ _ => False
  | n + 1 => qFnD 4 3 (qb__law_row (p__law_row n) (p__law_rows n))
def p__law_rows : Nat → List U → ExS → (U → MP) → MP
  | 0 => fun _ _ _ _ => False
  | n + 1 => qFnD 6 4 (qb__law_rows (p__law_row n) (p__law_rows n))
end
mutual
theorem l__law_row : ∀ n : Nat, SF KK (12 + 25 * n) (m__law_row n) (p__law_row n)
  | 0 => sf_stuck
  | n + 1 => by
    have Q__law_row := l__law_row n
    have Q__law_rows := l__law_rows n
    exact (sf_fnD (mb := b__law_row (m__law_row n) (m__law_rows n)) (pb := qb__law_row (p__law_row n) (p__law_rows n))
    (ss_seq (ss_asg (se_le (le_1 (le_acons (le_var 0) (le_acons (le_c _) le_anil)) l__law_draw)) (lt_set 3))
    (ss_seq (ss_setL (se_2 (se_2 (se_le (le_var 2)) (se_le (le_c _)) so_ix) (se_le (le_c _)) (so_2 lo_sub)) (se_le (le_var 2)) (se_le (le_c _)))
    (ss_seq (ss_if (se_le (le_or (le_2 (le_var 3) (le_c _) lo_lt) (le_2 (le_var 1) (le_c _) lo_eq))) (ss_ret (se_le (le_1 (le_acons (le_var 0) le_anil) l__law_straight))) ss_skip)
    (ss_seq (ss_if (se_le (le_2 (le_var 3) (le_c _) lo_eq)) (ss_ret (se_tup (se_acons (se_le (le_c _)) (se_acons (se_le (le_1 (le_acons (le_var 0) (le_acons (le_c _) le_anil)) l__law_draw)) (se_acons (se_1 (se_acons (se_le (le_var 0)) (se_acons (se_le (le_2 (le_var 1) (le_c _) lo_sub)) (se_acons (se_le (le_var 2)) (se_acons (se_le (le_c _)) se_anil)))) Q__law_rows) se_anil))))) ss_skip)
    (ss_ret (se_tup (se_acons (se_le (le_c _)) (se_acons (se_le (le_1 (le_acons (le_var 0) le_anil) l__law_operand)) (se_acons (se_1 (se_acons (se_le (le_var 0)) (se_acons (se_le (le_2 (le_var 1) (le_c _) lo_sub)) (se_acons (se_le (le_var 2)) (se_acons (se_le (le_c _)) se_anil)))) Q__law_rows) (se_acons (se_1 (se_acons (se_le (le_var 0)) (se_acons (se_le (le_2 (le_var 1) (le_c _) lo_sub)) (se_acons (se_le (le_var 2)) (se_acons (se_le (le_c _)) se_anil)))) Q__law_rows) se_anil))))))))))).weakZ (by rw [Nat.ble_eq]; simp [sq, lp] <;> omega)
theorem l__law_rows : ∀ n : Nat, SF KK (12 + 25 * n) (m__law_rows n) (p__law_rows n)
  | 0 => sf_stuck
  | n + 1 => by
    have Q__law_row := l__law_row n
    have Q__law_rows := l__law_rows n
    exact (sf_fnD (mb := b__law_rows (m__law_row n) (m__law_rows n)) (pb := qb__law_rows (p__law_row n) (p__law_rows n))
    (ss_seq (ss_asg (se_newS (se_le (le_lst le_anil))) (lt_set 4))
    (ss_seq (ss_forB (se_le (le_1 (le_2 (le_var 3) (le_1 (le_acons (le_var 0) (le_acons (le_c _) le_anil)) l__law_draw) lo_add) lo_irange1)) (lt_set 5) (ss_if (se_2 (se_2 (se_le (le_var 2)) (se_le (le_c _)) so_ix) (se_le (le_c _)) (so_2 lo_gt)) (ss_expr (se_mt (se_le (le_var 4)) (se_acons (se_1 (se_acons (se_le (le_var 0)) (se_acons (se_le (le_var 1)) (se_acons (se_le (le_var 2)) se_anil))) Q__law_row) se_anil) lm_append)) ss_skip))
    (ss_ret (se_1 (se_1 (se_le (le_var 4)) so_seqOf) (so_1 lo_tupOf)))))).weakZ (by rw [Nat.ble_eq]; simp [sq, lp] <;> omega)
end
def qb__law_program : VQ := (qSeq (qAsg (zE (vB (v2 (v1 (vaCons (vVar 0) (vaCons (vC (.int 8)) vaNil)) p__law_draw) (vC (.int 5)) vEq))) (tSet 1)) (qRet (zCal (zaCons (zE (vVar 0)) (zaCons (zE (vC (.int 3))) (zaCons (zNewS (zE (vLst (vaCons (v2 (vLst (vaCons (vC (.int 20)) (vaCons (vC (.int 60)) vaNil))) (v1 (vaCons (vVar 1) vaNil) vInt) vLIx) vaNil)))) (zaCons (zE (v2 (vLst (vaCons (v1 (vaCons (vVar 0) (vaCons (vC (.int 4)) vaNil)) p__law_draw) (vaCons (vC (.int 30)) vaNil))) (v1 (vaCons (vVar 1) vaNil) vInt) vLIx)) zaNil)))) (p__law_rows 20))))
def p__law_program : List U → ExS → (U → MP) → MP := qFnD 2 1 qb__law_program
theorem l__law_program : SF KK 514 m__law_program p__law_program := (sf_fnD (mb := b__law_program) (pb := qb__law_program)
    (ss_seq (ss_asg (se_le (le_B (le_2 (le_1 (le_acons (le_var 0) (le_acons (le_c _) le_anil)) l__law_draw) (le_c _) lo_eq))) (lt_set 1))
    (ss_ret (se_1 (se_acons (se_le (le_var 0)) (se_acons (se_le (le_c _)) (se_acons (se_newS (se_le (le_lst (le_acons (le_2 (le_lst (le_acons (le_c _) (le_acons (le_c _) le_anil))) (le_1 (le_acons (le_var 1) le_anil) lo_int) lo_lix) le_anil)))) (se_acons (se_le (le_2 (le_lst (le_acons (le_1 (le_acons (le_var 0) (le_acons (le_c _) le_anil)) l__law_draw) (le_acons (le_c _) le_anil))) (le_1 (le_acons (le_var 1) le_anil) lo_int) lo_lix)) se_anil)))) (l__law_rows 20))))).weakZ (by decide +kernel)
def pb__law_paths (q__law_paths : List U → ExK → (U → Prop) → Prop) : VS := (vSeq (vAsgN [] (vNew (vLst vaNil)) 1) (vSeq (vForB [1] (v1 (vVar 0) vEnum) (tTup 2 (tCons (tSet 2) (tCons (tSet 3) tNil))) (vSeq (vMtS [1] 1 (vaCons (vTup (vaCons (vTup (vaCons (vVar 2) vaNil)) (vaCons (vVar 3) vaNil))) vaNil) vAppend) (vForB [1] (v1 (vIf (v2 (v2 (vVar 3) (vC (.int 0)) vIx) (vTup (vaCons (vC (.str "if")) (vaCons (vC (.str "again")) vaNil))) vIn) (v3 (vVar 3) (vPart (some (vC (.int 2)))) (vPart none) vCut) (vTup vaNil)) vEnum) (tTup 2 (tCons (tSet 4) (tCons (tSet 5) tNil))) (vMtS [1] 1 (vaCons (vNew (vLc (v1 (vCal (vaCons (vVar 5) vaNil) q__law_paths) vSeqOf) (tTup 2 (tCons (tSet 6) (tCons (tSet 7) tNil))) vYes (vTup (vaCons (v2 (vTup (vaCons (vVar 2) (vaCons (vVar 4) vaNil))) (vVar 6) vAdd) (vaCons (vVar 7) vaNil))) [6, 7])) vaNil) vExtend)))) (vRet (vVar 1))))
def p__law_paths : Nat → List U → ExK → (U → Prop) → Prop
  | 0 => fun _ _ _ => False
  | n + 1 => vFn 8 1 (pb__law_paths (p__law_paths n))
theorem l__law_paths : ∀ n : Nat, LF KK 0 (m__law_paths n) (p__law_paths n)
  | 0 => lf_stuck
  | n + 1 => by
    have Q__law_paths := l__law_paths n
    exact (lf_fn (mb := b__law_paths (m__law_paths n)) (pb := pb__law_paths (p__law_paths n))
    (ls_seq (own1 := [1]) (ls_new (own' := [1]) (ln_new (le_lst le_anil)))
    (ls_seq (own1 := [1]) (ls_forB (le_1 (le_var 0) lo_enum) (lt_tup (lt_cons (lt_set 2) (lt_cons (lt_set 3) lt_nil))) (ls_seq (own1 := [1]) (ls_mt (le_acons (le_tup (le_acons (le_tup (le_acons (le_var 2) le_anil)) (le_acons (le_var 3) le_anil))) le_anil) lm_append)
    (ls_forB (le_1 (le_if (le_2 (le_2 (le_var 3) (le_c _) lo_ix) (le_tup (le_acons (le_c _) (le_acons (le_c _) le_anil))) lo_in) (le_3 (le_var 3) (le_psome (le_c _)) le_pnone lo_cut) (le_tup le_anil)) lo_enum) (lt_tup (lt_cons (lt_set 4) (lt_cons (lt_set 5) lt_nil))) (ls_mt (le_acons (le_new (le_lc (le_1 (le_1 (le_acons (le_var 5) le_anil) Q__law_paths) lo_ival) (lt_tup (lt_cons (lt_set 6) (lt_cons (lt_set 7) lt_nil))) le_yes (le_tup (le_acons (le_2 (le_tup (le_acons (le_var 2) (le_acons (le_var 4) le_anil))) (le_var 6) lo_add) (le_acons (le_var 7) le_anil))))) le_anil) lm_extend))))
    (ls_ret (le_var 1))))).weak (by decide +kernel)
def pb__law_others : VS := (vSeq (vAsg [] (v1 (vaCons (vVar 0) (vaCons (v1 (vaCons (vVar 1) vaNil) vLenA) vaNil)) p__law_draw) (tSet 2)) (vSeq (vAsg [] (v2 (vVar 1) (vVar 2) vIx) (tSet 3)) (vSeq (vAsg [] (vNew (vLst (vaCons (v2 (vVar 3) (vC (.int 1)) vAdd) (vaCons (v2 (vVar 3) (vC (.int 1)) vSub) (vaCons (v1 (vC (.int 1)) vNeg) (vaCons (v2 (vC (.int 0)) (vVar 3) vSub) (vaCons (v2 (vVar 3) (vC (.int 60)) vAdd) (vaCons (v2 (vC (.int 10)) (vC (.int 39)) vPow) (vaCons (vB (v2 (vVar 3) (vC (.int 1)) vEq)) (vaCons (vB (v2 (vVar 3) (vC (.int 0)) vEq)) (vaCons (v1 (vaCons (vVar 3) vaNil) vStr) (vaCons (vC (.non)) (vaCons (vTup (vaCons (vVar 3) vaNil)) vaNil))))))))))))) (tSet 4)) (vSeq (vAsg [] (vNew (vLc (v1 (v2 (v1 (vVar 4) vListOf) (v1 (vLst (vaCons (vC (.int 2)) (vaCons (vC (.int 1)) (vaCons (vC (.int 0)) vaNil)))) vId) vCat) vId) (tSet 6) vYes (v2 (v2 (v3 (vVar 1) (vPart none) (vPart (some (vVar 2))) vCut) (vTup (vaCons (vVar 6) vaNil)) vAdd) (v3 (vVar 1) (vPart (some (v2 (vVar 2) (vC (.int 1)) vAdd))) (vPart none) vCut) vAdd) [6])) (tSet 5)) (vSeq (vAsg [] (vNew (v2 (v1 (vVar 5) vListOf) (v1 (vLst (vaCons (v2 (v3 (vVar 1) (vPart none) (vPart (some (vVar 2))) vCut) (v3 (vVar 1) (vPart (some (v2 (vVar 2) (vC (.int 1)) vAdd))) (vPart none) vCut) vAddA) (vaCons (v2 (v3 (vVar 1) (vPart none) (vPart (some (v2 (vVar 2) (vC (.int 1)) vAdd))) vCut) (v3 (vVar 1) (vPart (some (vVar 2))) (vPart none) vCut) vAddA) (vaCons (v2 (vVar 1) (vTup (vaCons (vC (.int 0)) vaNil)) vAdd) vaNil)))) vId) vCat)) (tSet 5)) (vRet (vNew (v2 (v1 (vVar 5) vListOf) (v1 (vLst (vaCons (v2 (vVar 1) (vTup (vaCons (vC (.int 0)) (vaCons (vC (.int 0)) vaNil))) vAdd) (vaCons (v2 (vVar 1) (vTup (vaCons (vC (.int 1)) (vaCons (vC (.int 0)) vaNil))) vAdd) (vaCons (vNew (v1 (v1 (vVar 1) vSeqOf) vId)) vaNil)))) vId) vCat))))))))
def p__law_others : List U → ExK → (U → Prop) → Prop := vFn 7 2 pb__law_others
theorem l__law_others : LF KK 1 m__law_others p__law_others := (lf_fn (mb := b__law_others) (pb := pb__law_others)
    (ls_seq (own1 := []) (ls_asg (le_1 (le_acons (le_var 0) (le_acons (le_1 (le_acons (le_var 1) le_anil) lo_len) le_anil)) l__law_draw) (lt_set 2))
    (ls_seq (own1 := []) (ls_asg (le_2 (le_var 1) (le_var 2) lo_ix) (lt_set 3))
    (ls_seq (own1 := []) (ls_asg (le_new (le_lst (le_acons (le_2 (le_var 3) (le_c _) lo_add) (le_acons (le_2 (le_var 3) (le_c _) lo_sub) (le_acons (le_1 (le_c _) lo_neg) (le_acons (le_2 (le_c _) (le_var 3) lo_sub) (le_acons (le_2 (le_var 3) (le_c _) lo_add) (le_acons (le_2 (le_c _) (le_c _) lo_pow) (le_acons (le_B (le_2 (le_var 3) (le_c _) lo_eq)) (le_acons (le_B (le_2 (le_var 3) (le_c _) lo_eq)) (le_acons (le_1 (le_acons (le_var 3) le_anil) lo_str) (le_acons (le_c _) (le_acons (le_tup (le_acons (le_var 3) le_anil)) le_anil))))))))))))) (lt_set 4))
    (ls_seq (own1 := []) (ls_asg (le_new (le_lc (le_inew (le_2 (le_tour (le_var 4)) (le_tnew (le_lst (le_acons (le_c _) (le_acons (le_c _) (le_acons (le_c _) le_anil))))) lo_cat)) (lt_set 6) le_yes (le_2 (le_2 (le_3 (le_var 1) le_pnone (le_psome (le_var 2)) lo_cut) (le_tup (le_acons (le_var 6) le_anil)) lo_add) (le_3 (le_var 1) (le_psome (le_2 (le_var 2) (le_c _) lo_add)) le_pnone lo_cut) lo_add))) (lt_set 5))
    (ls_seq (own1 := []) (ls_asg (le_new (le_2 (le_tour (le_var 5)) (le_tnew (le_lst (le_acons (le_2 (le_3 (le_var 1) le_pnone (le_psome (le_var 2)) lo_cut) (le_3 (le_var 1) (le_psome (le_2 (le_var 2) (le_c _) lo_add)) le_pnone lo_cut) lo_addA) (le_acons (le_2 (le_3 (le_var 1) le_pnone (le_psome (le_2 (le_var 2) (le_c _) lo_add)) lo_cut) (le_3 (le_var 1) (le_psome (le_var 2)) le_pnone lo_cut) lo_addA) (le_acons (le_2 (le_var 1) (le_tup (le_acons (le_c _) le_anil)) lo_add) le_anil))))) lo_cat)) (lt_set 5))
    (ls_ret (le_new (le_2 (le_tour (le_var 5)) (le_tnew (le_lst (le_acons (le_2 (le_var 1) (le_tup (le_acons (le_c _) (le_acons (le_c _) le_anil))) lo_add) (le_acons (le_2 (le_var 1) (le_tup (le_acons (le_c _) (le_acons (le_c _) le_anil))) lo_add) (le_acons (le_new (le_1 (le_1 (le_var 1) lo_seqOf) lo_id)) le_anil))))) lo_cat))))))))).weak (by decide +kernel)
def pb__law_right : VS := (vRet (vB (v2 (v1 (vaCons (vCal (vaCons (vVar 0) (vaCons (vVar 2) vaNil)) p_row_at) vaNil) vRepr) (v1 (vaCons (vDGet2 (vVar 1) (v1 (vaCons (vVar 2) vaNil) vRepr) (vC (.non))) vaNil) vRepr) vEq)))
def p__law_right : List U → ExK → (U → Prop) → Prop := vFn 3 3 pb__law_right
theorem l__law_right : LF KK 0 m__law_right p__law_right := (lf_fn (mb := b__law_right) (pb := pb__law_right)
    (ls_ret (le_B (le_2 (le_1 (le_acons (le_1 (le_acons (le_var 0) (le_acons (le_var 2) le_anil)) l_row_at) le_anil) lo_repr) (le_1 (le_acons (le_dget2 (le_var 1) (le_1 (le_acons (le_var 2) le_anil) lo_repr) (le_c _)) le_anil) lo_repr) lo_eq)))).weak (by decide +kernel)
def qb_law : VQ := (qSeq (qForB (zE (v1 (vC (.int 3)) vIR1)) (tSet 2) (qSeq (qAsg (zCal (zE (vaCons (vVar 1) vaNil)) p__law_program) (tSet 3)) (qSeq (qAsg (zE (v1 (vaCons (vVar 3) vaNil) vRepr)) (tSet 4)) (qSeq (qAsg (zE (vCal (vaCons (vVar 3) vaNil) (p__law_paths 20))) (tSet 5)) (qSeq (qAsg (zE (vDictP (vLc (v1 (vVar 5) vSeqOf) (tTup 2 (tCons (tSet 9) (tCons (tSet 11) tNil))) vYes (vTup (vaCons (v1 (vaCons (vVar 9) vaNil) vRepr) (vaCons (vVar 11) vaNil))) [9, 11]))) (tSet 6)) (qSeq (qIf (zE (v2 (vCal (vaCons (vVar 3) vaNil) (p_rows_in 20)) (v1 (vaCons (vVar 5) vaNil) vLenA) vNe)) (qRet (zE (vC (.bl false)))) qSkip) (qSeq (qIf (zE (v1 (vLc (v1 (vVar 5) vSeqOf) (tTup 2 (tCons (tSet 9) (tCons (tSet 11) tNil))) (vNot (v1 (vCal (vaCons (vVar 3) (vaCons (vVar 6) (vaCons (vVar 9) vaNil))) p__law_right) vTruth)) (vC (.int 1)) [9, 11]) (vNil true))) (qRet (zE (vC (.bl false)))) qSkip) (qSeq (qForB (zE (v1 (vC (.int 6)) vIR1)) (tSet 7) (qSeq (qAsg (zE (vCal (vaCons (vVar 1) (vaCons (vCal (vaCons (vVar 1) (vaCons (vNew (v2 (v1 (vLc (v1 (vVar 5) vSeqOf) (tTup 2 (tCons (tSet 9) (tCons (tSet 11) tNil))) vYes (vVar 9) [9, 11]) vId) (v1 (vLst (vaCons (vTup (vaCons (vC (.int 0)) vaNil)) vaNil)) vId) vCat)) vaNil)) p__law_pick) vaNil)) p__law_others)) (tSet 10)) (qIf (zE (v1 (vLc (v1 (vVar 10) vSeqOf) (tSet 9) (vNot (v1 (vCal (vaCons (vVar 3) (vaCons (vVar 6) (vaCons (vVar 9) vaNil))) p__law_right) vTruth)) (vVar 9) [9]) (vNil true))) (qRet (zE (vC (.bl false)))) qSkip))) (qSeq (qAsg (zE (vNew (vLst (vaCons (vC (.non)) (vaCons (vC (.bl true)) (vaCons (vC (.int 0)) (vaCons (vC (.str "")) (vaCons (vC (.str "0")) (vaCons (vTup vaNil) (vaCons (vNew (vLst vaNil)) (vaCons vDnew (vaCons (vNew (vLst (vaCons (vC (.int 0)) vaNil))) (vaCons (vTup (vaCons (vC (.non)) vaNil)) (vaCons (vTup (vaCons (vTup (vaCons (vC (.int 0)) vaNil)) vaNil)) (vaCons (vTup (vaCons (vC (.int 0)) (vaCons (vC (.int 0)) vaNil))) (vaCons (vTup (vaCons (v1 (vaCons (vVar 3) vaNil) vLenA) vaNil)) (vaCons (vTup (vaCons (v1 (vC (.int 1)) vNeg) vaNil)) (vaCons (vTup (vaCons (vC (.bl true)) vaNil)) vaNil)))))))))))))))))) (tSet 8)) (qFor (zE (v1 (vVar 8) vSeqOf)) (tSet 9) (qIf (zE (vOr (vNot (v1 (vCal (vaCons (vVar 3) (vaCons (vVar 6) (vaCons (vVar 9) vaNil))) p__law_right) vTruth)) (v2 (v1 (vaCons (vVar 3) vaNil) vRepr) (vVar 4) vNe))) (qRet (zE (vC (.bl false)))) qSkip))))))))))) (qRet (zE (vC (.bl true)))))
def rest_law : SM := (sSeq (sFor (e1 (eC (.int 3)) iRange1) (gSet 2) (sSeq (sAsg (e1 (aCons (eVar 1) aNil) m__law_program) (gSet 3)) (sSeq (sAsg (e1 (aCons (eVar 3) aNil) oRepr) (gSet 4)) (sSeq (sAsg (e1 (aCons (eVar 3) aNil) (m__law_paths 20)) (gSet 5)) (sSeq (sAsg (e1 (lLc (e1 (eVar 5) iVal) (gTupD 2 (gConsD (gSet 9) (gConsD (gSet 11) gNilD))) bYes (eTup (aCons (e1 (aCons (eVar 9) aNil) oRepr) (aCons (eVar 11) aNil))) [9, 11]) sDict) (gSet 6)) (sSeq (sIf (e2 (e1 (aCons (eVar 3) aNil) (m_rows_in 20)) (e1 (aCons (eVar 5) aNil) oLenA) cNe) (sRet (eC (.bl false))) sSkip) (sSeq (sIf (bNil true (lLc (e1 (eVar 5) iVal) (gTupD 2 (gConsD (gSet 9) (gConsD (gSet 11) gNilD))) (bNot (e1 (e1 (aCons (eVar 3) (aCons (eVar 6) (aCons (eVar 9) aNil))) m__law_right) truth)) (eC (.int 1)) [9, 11])) (sRet (eC (.bl false))) sSkip) (sSeq (sFor (e1 (eC (.int 6)) iRange1) (gSet 7) (sSeq (sAsg (e1 (aCons (eVar 1) (aCons (e1 (aCons (eVar 1) (aCons (eNew (e2 (tNew (lLc (e1 (eVar 5) iVal) (gTupD 2 (gConsD (gSet 9) (gConsD (gSet 11) gNilD))) bYes (eVar 9) [9, 11])) (tNew (lLst (aCons (eTup (aCons (eC (.int 0)) aNil)) aNil))) lCat)) aNil)) m__law_pick) aNil)) m__law_others) (gSet 10)) (sIf (bNil true (lLc (e1 (eVar 10) iVal) (gSet 9) (bNot (e1 (e1 (aCons (eVar 3) (aCons (eVar 6) (aCons (eVar 9) aNil))) m__law_right) truth)) (eVar 9) [9])) (sRet (eC (.bl false))) sSkip))) (sSeq (sAsg (eNew (lLst (aCons (eC (.non)) (aCons (eC (.bl true)) (aCons (eC (.int 0)) (aCons (eC (.str "")) (aCons (eC (.str "0")) (aCons (eTup aNil) (aCons (eNew (lLst aNil)) (aCons eDnew (aCons (eNew (lLst (aCons (eC (.int 0)) aNil))) (aCons (eTup (aCons (eC (.non)) aNil)) (aCons (eTup (aCons (eTup (aCons (eC (.int 0)) aNil)) aNil)) (aCons (eTup (aCons (eC (.int 0)) (aCons (eC (.int 0)) aNil))) (aCons (eTup (aCons (e1 (aCons (eVar 3) aNil) oLenA) aNil)) (aCons (eTup (aCons (e1 (eC (.int 1)) oNeg) aNil)) (aCons (eTup (aCons (eC (.bl true)) aNil)) aNil))))))))))))))))) (gSet 8)) (sFor (e1 (eVar 8) iVal) (gSet 9) (sIf (bOr (bNot (e1 (e1 (aCons (eVar 3) (aCons (eVar 6) (aCons (eVar 9) aNil))) m__law_right) truth)) (e2 (e1 (aCons (eVar 3) aNil) oRepr) (eVar 4) cNe)) (sRet (eC (.bl false))) sSkip))))))))))) (sRet (eC (.bl true))))
theorem ss_law : SS KK 539 rest_law qb_law := by
  unfold rest_law qb_law
  exact (ss_seq (ss_forB (se_le (le_1 (le_c _) lo_irange1)) (lt_set 2) (ss_seq (ss_asg (se_1 (se_le (le_acons (le_var 1) le_anil)) l__law_program) (lt_set 3))
    (ss_seq (ss_asg (se_le (le_1 (le_acons (le_var 3) le_anil) lo_repr)) (lt_set 4))
    (ss_seq (ss_asg (se_le (le_1 (le_acons (le_var 3) le_anil) (l__law_paths 20))) (lt_set 5))
    (ss_seq (ss_asg (se_le (ln_le (ln_dict (le_lc (le_1 (le_var 5) lo_ival) (lt_tup (lt_cons (lt_set 9) (lt_cons (lt_set 11) lt_nil))) le_yes (le_tup (le_acons (le_1 (le_acons (le_var 9) le_anil) lo_repr) (le_acons (le_var 11) le_anil))))))) (lt_set 6))
    (ss_seq (ss_if (se_le (le_2 (le_1 (le_acons (le_var 3) le_anil) (l_rows_in 20)) (le_1 (le_acons (le_var 5) le_anil) lo_len) lo_ne)) (ss_ret (se_le (le_c _))) ss_skip)
    (ss_seq (ss_if (se_le (le_nil (le_lc (le_1 (le_var 5) lo_ival) (lt_tup (lt_cons (lt_set 9) (lt_cons (lt_set 11) lt_nil))) (le_not (le_1 (le_1 (le_acons (le_var 3) (le_acons (le_var 6) (le_acons (le_var 9) le_anil))) l__law_right) lo_truth)) (le_c _)))) (ss_ret (se_le (le_c _))) ss_skip)
    (ss_seq (ss_forB (se_le (le_1 (le_c _) lo_irange1)) (lt_set 7) (ss_seq (ss_asg (se_le (le_1 (le_acons (le_var 1) (le_acons (le_1 (le_acons (le_var 1) (le_acons (le_new (le_2 (le_tnew (le_lc (le_1 (le_var 5) lo_ival) (lt_tup (lt_cons (lt_set 9) (lt_cons (lt_set 11) lt_nil))) le_yes (le_var 9))) (le_tnew (le_lst (le_acons (le_tup (le_acons (le_c _) le_anil)) le_anil))) lo_cat)) le_anil)) l__law_pick) le_anil)) l__law_others)) (lt_set 10))
    (ss_if (se_le (le_nil (le_lc (le_1 (le_var 10) lo_ival) (lt_set 9) (le_not (le_1 (le_1 (le_acons (le_var 3) (le_acons (le_var 6) (le_acons (le_var 9) le_anil))) l__law_right) lo_truth)) (le_var 9)))) (ss_ret (se_le (le_c _))) ss_skip)))
    (ss_seq (ss_asg (se_le (le_new (le_lst (le_acons (le_c _) (le_acons (le_c _) (le_acons (le_c _) (le_acons (le_c _) (le_acons (le_c _) (le_acons (le_tup le_anil) (le_acons (le_new (le_lst le_anil)) (le_acons (ln_le ln_dnew) (le_acons (le_new (le_lst (le_acons (le_c _) le_anil))) (le_acons (le_tup (le_acons (le_c _) le_anil)) (le_acons (le_tup (le_acons (le_tup (le_acons (le_c _) le_anil)) le_anil)) (le_acons (le_tup (le_acons (le_c _) (le_acons (le_c _) le_anil))) (le_acons (le_tup (le_acons (le_1 (le_acons (le_var 3) le_anil) lo_len) le_anil)) (le_acons (le_tup (le_acons (le_1 (le_c _) lo_neg) le_anil)) (le_acons (le_tup (le_acons (le_c _) le_anil)) le_anil)))))))))))))))))) (lt_set 8))
    (ss_for (se_le (le_1 (le_var 8) lo_ival)) (lt_set 9) (ss_if (se_le (le_or (le_not (le_1 (le_1 (le_acons (le_var 3) (le_acons (le_var 6) (le_acons (le_var 9) le_anil))) l__law_right) lo_truth)) (le_2 (le_1 (le_acons (le_var 3) le_anil) lo_repr) (le_var 4) lo_ne))) (ss_ret (se_le (le_c _))) ss_skip)))))))))))
    (ss_ret (se_le (le_c _))))
theorem law_eq : m_law = fnR 12 1 (sSeq (sAsg (e1 (aCons (eVar 0) aNil) m__law_deck) (gSet 1)) rest_law) := rfl
theorem law_link {ns : List Int} (hl : ns.length ≤ 63) (x : qb_law (none :: some (.ref 2) :: List.replicate 10 none) TrueZ sto0) : ∃ ah', m_law [.ref 0] (ah0 ns) = .ok (.bl true) ah' :=
  by rw [law_eq]; exact law_Z (K := KK) (n := 10) (c := 539) (rest := rest_law) (pr := qb_law) (md := m__law_deck) (deck_C hl) ⟨dkB ns, _, [], rfl, dkB_ok hl⟩ ss_law (by decide +kernel) x
end HL
namespace HL
open PySem PySem.Spec PyProof.Rows L2 HA HV
inductive Vl where
  | non
  | num (i : Int)
  | adr (w i : Int)
deriving DecidableEq
def Vl.u : Vl → U
  | .non => .non
  | .num i => .int i
  | .adr w i => .tup [.int w, .int i]
def Vl.i : Vl → Int
  | .non => 0
  | .num i => i
  | .adr _ i => i
def Vl.w : Vl → Int
  | .adr w _ => w
  | _ => 0
def Vl.isA : Vl → Bool
  | .adr _ _ => true
  | _ => false
def Vl.isN : Vl → Bool
  | .non => true
  | _ => false
inductive Md where
  | held | shown | gone
deriving DecidableEq
def Md.n : Md → String
  | .held => "held"
  | .shown => "shown"
  | .gone => "gone"
structure Rm where
  base : Int
  size : Int
  mode : Md
  cells : List Vl
def Rm.u (r : Rm) : U := .tup [.int r.base, .int r.size, .str (Str.ofString r.mode.n), .tup (r.cells.map Vl.u)]
def Rm.here (r : Rm) : Bool := !decide (r.mode = .gone)
abbrev Rgs := Fin 8 → Vl
def rgU (f : Rgs) : List U := [(f 0).u, (f 1).u, (f 2).u, (f 3).u, (f 4).u, (f 5).u, (f 6).u, (f 7).u]
structure St where
  span : Int
  rooms : List Rm
  regs : Rgs
  told : List Int
def St.u (s : St) : U := .tup [.int s.span, .tup (s.rooms.map Rm.u), .tup (rgU s.regs), .tup (s.told.map U.int)]
def St.set (s : St) (n : Fin 8) (v : Vl) : St := { s with regs := fun j => if j = n then v else s.regs j }
def St.room (s : St) (w : Nat) (r : Rm) : St := { s with rooms := s.rooms.set w r }
def letC (n : Fin 8) : String := match n with
  | 0 => "a" | 1 => "b" | 2 => "c" | 3 => "d" | 4 => "e" | 5 => "f" | 6 => "g" | 7 => "h"
def letF (n : Fin 8) : Str := Str.ofString (letC n)
inductive Opd where
  | num (i : Int)
  | reg (n : Fin 8)
def Opd.u : Opd → U
  | .num i => .int i
  | .reg n => .str (letF n)
def St.v (s : St) : Opd → Vl
  | .num i => .num i
  | .reg n => s.regs n
inductive Cast where
  | none | shown | any
deriving DecidableEq
def Cast.n : Cast → String
  | .none => "none"
  | .shown => "shown"
  | .any => "any"
inductive Alike where
  | none | number | whence
deriving DecidableEq
def Alike.n : Alike → String
  | .none => "none"
  | .number => "number"
  | .whence => "whence"
structure Rl4 where
  cast : Cast
  order : Bool
  alike : Alike
  stale : Bool
deriving DecidableEq
def ordN : Bool → String
  | true => "number"
  | false => "none"
def stlN : Bool → String
  | true => "let"
  | false => "none"
def Rl4.us (r : Rl4) : List U := [.str (Str.ofString r.cast.n), .str (Str.ofString (ordN r.order)), .str (Str.ofString r.alike.n), .str (Str.ofString (stlN r.stale))]
def Rl4.t (r : Rl4) : U := .tup r.us
def Rl4.I (r : Rl4) : U := .ins "Rule" ["cast", "order", "alike", "stale"] r.us
inductive Row where
  | let_ (n : Fin 8) (x : Opd)
  | sum (n : Fin 8) (x y : Opd)
  | less (n : Fin 8) (x y : Opd)
  | tell (x : Opd)
  | room (n : Fin 8) (k : Int)
  | free (x : Opd)
  | move (n : Fin 8) (x y : Opd)
  | back (n : Fin 8) (x y : Opd)
  | read (n : Fin 8) (x : Opd)
  | put (x y : Opd)
  | same (n : Fin 8) (x y : Opd)
  | under (n : Fin 8) (x y : Opd)
  | show_ (n : Fin 8) (x : Opd)
  | guess (n : Fin 8) (x : Opd)
def wd (s : String) : U := .str (Str.ofString s)
def Row.us : Row → List U
  | .let_ n x => [.str (letF n), x.u]
  | .sum n x y => [.str (letF n), x.u, y.u]
  | .less n x y => [.str (letF n), x.u, y.u]
  | .tell x => [x.u]
  | .room n k => [.str (letF n), .int k]
  | .free x => [x.u]
  | .move n x y => [.str (letF n), x.u, y.u]
  | .back n x y => [.str (letF n), x.u, y.u]
  | .read n x => [.str (letF n), x.u]
  | .put x y => [x.u, y.u]
  | .same n x y => [.str (letF n), x.u, y.u]
  | .under n x y => [.str (letF n), x.u, y.u]
  | .show_ n x => [.str (letF n), x.u]
  | .guess n x => [.str (letF n), x.u]
def Row.n : Row → String
  | .let_ _ _ => "let"
  | .sum _ _ _ => "sum"
  | .less _ _ _ => "less"
  | .tell _ => "tell"
  | .room _ _ => "room"
  | .free _ => "free"
  | .move _ _ _ => "move"
  | .back _ _ _ => "back"
  | .read _ _ => "read"
  | .put _ _ => "put"
  | .same _ _ _ => "same"
  | .under _ _ _ => "under"
  | .show_ _ _ => "show"
  | .guess _ _ => "guess"
def Row.u (r : Row) : U := .tup (.str (Str.ofString r.n) :: r.us)
inductive Sort3 where
  | any | number | address
def Sort3.n : Sort3 → String
  | .any => "any"
  | .number => "number"
  | .address => "address"
def want : Vl → Sort3 → Option String
  | .non, _ => some "none"
  | .num _, .address => some "kind"
  | .adr _ _, .number => some "kind"
  | _, _ => none
def Row.ops : Row → List (Opd × Sort3)
  | .let_ _ x => [(x, .any)]
  | .sum _ x y => [(x, .number), (y, .number)]
  | .less _ x y => [(x, .number), (y, .number)]
  | .tell x => [(x, .number)]
  | .room _ _ => []
  | .free x => [(x, .address)]
  | .move _ x y => [(x, .address), (y, .number)]
  | .back _ x y => [(x, .address), (y, .number)]
  | .read _ x => [(x, .address)]
  | .put x y => [(x, .address), (y, .any)]
  | .same _ x y => [(x, .any), (y, .any)]
  | .under _ x y => [(x, .any), (y, .any)]
  | .show_ _ x => [(x, .address)]
  | .guess _ x => [(x, .number)]
def wants (s : St) : List (Opd × Sort3) → Option String
  | [] => none
  | (x, z) :: r => match want (s.v x) z with
    | some q => some q
    | none => wants s r
inductive Out where
  | ok (s : St)
  | ref (r : String)
  | base (u : U)
def atR (s : St) (always : Bool) (v : Vl) (f : Nat → Rm → Out) : Out :=
  if v.w < 0 then .ref "whence" else match s.rooms[v.w.toNat]? with
    | some r => if r.here = true ∨ always = false then f v.w.toNat r else .ref "gone"
    | none => .ref "whence"
def moveO (s : St) (n : Fin 8) (v : Vl) (far : Int) : Out := atR s true v fun _ r =>
  if r.base ≤ v.i + far ∧ v.i + far ≤ r.base + r.size then .ok (s.set n (.adr v.w (v.i + far))) else .ref "out"
def Rm.goneR (r : Rm) : Rm := { r with mode := .gone, cells := [] }
def Rm.shownR (r : Rm) : Rm := { r with mode := if r.mode = .held then .shown else r.mode }
def Rm.putR (r : Rm) (far : Nat) (v : Vl) : Rm := { r with cells := r.cells.set far v }
def freeO (s : St) (v : Vl) : Out := atR s true v fun w r => if v.i = r.base then .ok (s.room w r.goneR) else .ref "out"
def readO (s : St) (n : Fin 8) (v : Vl) : Out := atR s true v fun _ r =>
  if v.i < r.base + r.size then match r.cells[(v.i - r.base).toNat]? with
    | some c => if c.isN = true then .ref "bare" else .ok (s.set n c)
    | none => .ref "bare" else .ref "out"
def putO (s : St) (v u : Vl) : Out := atR s true v fun w r =>
  if v.i < r.base + r.size then .ok (s.room w (r.putR (v.i - r.base).toNat u)) else .ref "out"
def showO (q : Rl4) (s : St) (n : Fin 8) (v : Vl) : Out := atR s (!q.stale) v fun w r => .ok ((s.room w r.shownR).set n (.num v.i))
def b01 (b : Bool) : Vl := .num (if b = true then 1 else 0)
inductive Cmp where
  | ref (r : String)
  | one
  | two
def cmpO (q : Rl4) (s : St) (v u : Vl) : Cmp :=
  if v.isA = true then if u.isA = true then
    (if v.w < 0 ∨ u.w < 0 then .ref "whence" else match s.rooms[v.w.toNat]?, s.rooms[u.w.toNat]? with
      | some r, some t => if q.stale = true ∨ (r.here = true ∧ t.here = true) then (if v.w = u.w then .one else .two) else .ref "gone"
      | _, _ => .ref "whence")
    else .ref "kind"
  else if u.isA = true then .ref "kind" else .one
def sameO (q : Rl4) (s : St) (n : Fin 8) (v u : Vl) : Out := match cmpO q s v u with
  | .ref r => .ref r
  | .one => .ok (s.set n (b01 (decide (v.i = u.i))))
  | .two => match q.alike with
    | .none => .ref "alike"
    | .number => .ok (s.set n (b01 (decide (v.i = u.i))))
    | .whence => .ok (s.set n (b01 false))
def underO (q : Rl4) (s : St) (n : Fin 8) (v u : Vl) : Out := match cmpO q s v u with
  | .ref r => .ref r
  | .one => .ok (s.set n (b01 (decide (v.i < u.i))))
  | .two => if q.order = true then .ok (s.set n (b01 (decide (v.i < u.i)))) else .ref "order"
def casts : Cast → Md → Bool
  | .none, _ => false
  | .shown, m => decide (m = .shown)
  | .any, m => !decide (m = .gone)
def numR : Nat → List Rm → List (Nat × Rm)
  | _, [] => []
  | i, r :: rs => (i, r) :: numR (i + 1) rs
def guessed (q : Rl4) (s : St) (i : Int) : Int :=
  let some' := (numR 0 s.rooms).filter fun p => casts q.cast p.2.mode
  let within := (some'.filter fun p => decide (p.2.base ≤ i ∧ i < p.2.base + p.2.size)).map fun p => (p.1 : Int)
  let ends := (some'.filter fun p => decide (i = p.2.base + p.2.size)).map fun p => (p.1 : Int)
  (within ++ ends ++ [-1]).headD (-1)
def freeAt (s : St) (k b : Int) : Bool := (s.rooms.filter Rm.here).all fun r => decide (r.base + r.size ≤ b ∨ b + k ≤ r.base)
def rightB (s : St) (k : Int) : List Int := (rng 1 (s.span - k + 1)).filter (freeAt s k)
def St.held (s : St) (n : Fin 8) (k b : Int) : St := St.set { s with rooms := s.rooms ++ [⟨b, k, .held, List.replicate k.toNat .non⟩] } n (.adr s.rooms.length b)
def roomO (s : St) (n : Fin 8) (k : Int) (b : U) : Out := if rightB s k = [] then .ref "full" else match b with
  | .int i => if i ∈ rightB s k then .ok (s.held n k i) else .base b
  | _ => .base b
def rowO (q : Rl4) (s : St) (b : U) : Row → Out
  | .let_ n x => .ok (s.set n (s.v x))
  | .sum n x y => .ok (s.set n (.num (((s.v x).i + (s.v y).i) % 1000)))
  | .less n x y => .ok (s.set n (.num (((s.v x).i - (s.v y).i) % 1000)))
  | .tell x => .ok { s with told := s.told ++ [(s.v x).i] }
  | .room n k => roomO s n k b
  | .free x => freeO s (s.v x)
  | .move n x y => moveO s n (s.v x) (s.v y).i
  | .back n x y => moveO s n (s.v x) (0 - (s.v y).i)
  | .read n x => readO s n (s.v x)
  | .put x y => putO s (s.v x) (s.v y)
  | .same n x y => sameO q s n (s.v x) (s.v y)
  | .under n x y => underO q s n (s.v x) (s.v y)
  | .show_ n x => showO q s n (s.v x)
  | .guess n x => .ok (s.set n (.adr (guessed q s (s.v x).i) (s.v x).i))
def doneO (q : Rl4) (s : St) (r : Row) (b : U) : Out := match wants s r.ops with
  | some z => .ref z
  | none => rowO q s b r
def Vl.ok (rooms : List Rm) : Vl → Prop
  | .non => True
  | .num i => 0 ≤ i ∧ i ≤ 999
  | .adr w i => (0 ≤ i ∧ i ≤ 999) ∧ (w = -1 ∨ ∃ (n : Nat) (r : Rm), w = n ∧ rooms[n]? = some r ∧ r.base ≤ i ∧ i ≤ r.base + r.size)
structure Rm.ok (span : Int) (r : Rm) : Prop where
  base : 1 ≤ r.base
  size : 1 ≤ r.size ∧ r.size ≤ 80
  ends : r.base + r.size ≤ span
  here : r.here = true → (r.cells.length : Int) = r.size
  gone : r.here = false → r.cells = []
structure St.ok (s : St) : Prop where
  span : 2 ≤ s.span ∧ s.span ≤ 999
  rooms : ∀ r ∈ s.rooms, r.ok s.span
  cells : ∀ r ∈ s.rooms, ∀ c ∈ r.cells, c.ok s.rooms
  regs : ∀ n, (s.regs n).ok s.rooms
  told : ∀ i ∈ s.told, 0 ≤ i ∧ i ≤ 999
def Opd.ok : Opd → Prop
  | .num i => 0 ≤ i ∧ i ≤ 999
  | .reg _ => True
def Row.ok : Row → Prop
  | .let_ _ x => x.ok
  | .sum _ x y => x.ok ∧ y.ok
  | .less _ x y => x.ok ∧ y.ok
  | .tell x => x.ok
  | .room _ k => 1 ≤ k ∧ k ≤ 8
  | .free x => x.ok
  | .move _ x y => x.ok ∧ y.ok
  | .back _ x y => x.ok ∧ y.ok
  | .read _ x => x.ok
  | .put x y => x.ok ∧ y.ok
  | .same _ x y => x.ok ∧ y.ok
  | .under _ x y => x.ok ∧ y.ok
  | .show_ _ x => x.ok
  | .guess _ x => x.ok
theorem St.ok.val {s : St} (h : s.ok) {x : Opd} (hx : x.ok) : (s.v x).ok s.rooms := by
  cases x with
  | num i => exact hx
  | reg n => exact h.regs n
end HL
namespace HL
open PySem PySem.Spec PyProof.Rows L2 HA HV
inductive Rw where
  | st (r : Row)
  | ag (t : Int) (rs : List Rw)
  | iff (x : Opd) (a b : List Rw)
mutual
def Rw.u : Rw → U
  | .st r => r.u
  | .ag t rs => .tup [wd "again", .int t, .tup (Rw.us rs)]
  | .iff x a b => .tup [wd "if", x.u, .tup (Rw.us a), .tup (Rw.us b)]
def Rw.us : List Rw → List U
  | [] => []
  | r :: rs => r.u :: Rw.us rs
end
mutual
def Rw.cnt : Rw → Nat
  | .st _ => 1
  | .ag _ rs => 1 + Rw.cnts rs
  | .iff _ a b => 1 + (Rw.cnts a + Rw.cnts b)
def Rw.cnts : List Rw → Nat
  | [] => 0
  | r :: rs => r.cnt + Rw.cnts rs
end
mutual
def Rw.dp : Rw → Nat
  | .st _ => 0
  | .ag _ rs => 1 + Rw.dps rs
  | .iff _ a b => 1 + max (Rw.dps a) (Rw.dps b)
def Rw.dps : List Rw → Nat
  | [] => 0
  | r :: rs => max r.dp (Rw.dps rs)
end
mutual
def Rw.wf : Rw → Prop
  | .st r => r.ok
  | .ag _ rs => Rw.wfs rs
  | .iff x a b => x.ok ∧ Rw.wfs a ∧ Rw.wfs b
def Rw.wfs : List Rw → Prop
  | [] => True
  | r :: rs => r.wf ∧ Rw.wfs rs
end
mutual
def Rw.tm : Rw → Bool
  | .st _ => true
  | .ag t rs => (decide (0 ≤ t) && decide (t ≤ 5)) && Rw.tms rs
  | .iff _ a b => Rw.tms a && Rw.tms b
def Rw.tms : List Rw → Bool
  | [] => true
  | r :: rs => r.tm && Rw.tms rs
end
theorem us_len : ∀ rs : List Rw, (Rw.us rs).length = rs.length
  | [] => rfl
  | r :: rs => by unfold Rw.us; rw [List.length_cons, us_len rs, List.length_cons]
theorem us_map : ∀ rs : List Rw, Rw.us rs = rs.map Rw.u
  | [] => rfl
  | r :: rs => by unfold Rw.us; rw [us_map rs, List.map_cons]
theorem cnts_app : ∀ a b : List Rw, Rw.cnts (a ++ b) = Rw.cnts a + Rw.cnts b
  | [], b => by simp [Rw.cnts]
  | r :: a, b => by rw [List.cons_append]; simp only [Rw.cnts, cnts_app a b]; omega
theorem us_app : ∀ a b : List Rw, Rw.us (a ++ b) = Rw.us a ++ Rw.us b := fun a b => by simp only [us_map, List.map_append]
theorem wfs_app : ∀ a b : List Rw, Rw.wfs (a ++ b) ↔ Rw.wfs a ∧ Rw.wfs b
  | [], b => by simp [Rw.wfs]
  | r :: a, b => by rw [List.cons_append]; simp only [Rw.wfs, wfs_app a b, and_assoc]
theorem tms_app : ∀ a b : List Rw, Rw.tms (a ++ b) = (Rw.tms a && Rw.tms b)
  | [], b => by simp [Rw.tms]
  | r :: a, b => by rw [List.cons_append]; simp only [Rw.tms, tms_app a b, Bool.and_assoc]
theorem dps_app : ∀ a b : List Rw, Rw.dps (a ++ b) = max (Rw.dps a) (Rw.dps b)
  | [], b => by simp [Rw.dps]
  | r :: a, b => by rw [List.cons_append]; simp only [Rw.dps, dps_app a b]; omega
theorem cnt_pos : ∀ r : Rw, 1 ≤ r.cnt
  | .st _ => by simp [Rw.cnt]
  | .ag _ _ => by simp [Rw.cnt]
  | .iff _ _ _ => by simp [Rw.cnt]
theorem len_cnts : ∀ rs : List Rw, rs.length ≤ Rw.cnts rs
  | [] => by simp [Rw.cnts]
  | r :: rs => by have := cnt_pos r; have := len_cnts rs; simp only [List.length_cons, Rw.cnts]; omega
theorem cnts_split (rs : List Rw) (n : Nat) : Rw.cnts (rs.take n) + Rw.cnts (rs.drop n) = Rw.cnts rs := by rw [← cnts_app, List.take_append_drop]
theorem mem_dps {rs : List Rw} {r : Rw} (h : r ∈ rs) : r.dp ≤ Rw.dps rs ∧ r.cnt ≤ Rw.cnts rs ∧ (Rw.wfs rs → r.wf) := by
  induction rs with
  | nil => cases h
  | cons q rs ih =>
    rcases List.mem_cons.mp h with rfl | h
    · exact ⟨by simp only [Rw.dps]; omega, by simp only [Rw.cnts]; omega, fun h => h.1⟩
    · obtain ⟨a, b, c⟩ := ih h
      exact ⟨by simp only [Rw.dps]; omega, by simp only [Rw.cnts]; omega, fun h => c h.2⟩
end HL
namespace HL
open PySem PySem.Spec PyProof.Rows L2 HA HV
section
variable {X : ExK} {k : U → Prop}
theorem s_number (h : ∀ y : Int, 0 ≤ y → y ≤ 999 → k (.int y)) : cal p__law_number [.ref 2] X k () := by
  simp -dsimp [cal, p__law_number, pb__law_number, p__law_draw]
  intro v1 h1 v2 h2 v3 h3 y hy
  simp [Of] at hy
  exact h y (by omega) (by omega)
theorem s_pickL {us : List U} (h0 : us ≠ []) (hl : us.length ≤ 16777216) (h : ∀ u ∈ us, k u) : cal p__law_pick [.ref 2, .lst us] X k () := by
  have := List.length_pos_iff.mpr h0
  simp -dsimp [cal, p__law_pick, pb__law_pick, p__law_draw, hl]
  refine ⟨by omega, fun v hv => ?_⟩
  have hv' : v < us.length := by omega
  simp -dsimp [hv']
  exact h _ (List.getElem_mem _)
theorem str_get (z : Str) (v : Nat) (c : Str) (hl : z.length ≤ line) (h : z.cps.toList[v]?.map (fun c => (⟨#[c]⟩ : Str)) = some c) : vIx (.str z) (.int v) X k = k (.str c) := by
  rw [vIx_str, eq_true hl, true_and]
  cases e : z.cps.toList[v]? with
  | none => rw [e] at h; cases h
  | some q =>
    rw [e] at h
    cases h
    simp [e]
theorem s_pick8 (h : ∀ n : Fin 8, k (.str (letF n))) : cal p__law_pick [.ref 2, .str (Str.ofString "abcdefgh")] X k () := by
  have r8 : (Str.ofString "abcdefgh").length = 8 := by decide +kernel
  simp -dsimp [cal, p__law_pick, pb__law_pick, p__law_draw, r8]
  intro v hv
  have z : ∀ v : Nat, v < 8 → (Str.ofString "abcdefgh").cps.toList[v]?.map (fun c => (⟨#[c]⟩ : Str)) = some (letF (Fin.ofNat 8 v)) := by decide +kernel
  rw [str_get _ v _ (by decide +kernel) (z v (by omega))]
  exact h _
theorem s_operand (h : ∀ x : Opd, x.ok → k x.u) : cal p__law_operand [.ref 2] X k () := by
  simp -dsimp [cal, p__law_operand, pb__law_operand]
  refine s_number fun i i0 i1 => ?_
  try simp -dsimp
  refine s_pick8 fun n => ?_
  try simp -dsimp
  refine s_pick8 fun m => ?_
  simp -dsimp [p__law_draw]
  intro v hv
  have : v = 0 ∨ v = 1 ∨ v = 2 := by omega
  rcases this with rfl | rfl | rfl
  · simp -dsimp; exact h (.num i) ⟨i0, i1⟩
  · simp -dsimp; exact h (.reg n) trivial
  · simp -dsimp; exact h (.reg m) trivial
def words : List String := ["let", "sum", "less", "tell", "room", "free", "move", "back", "read", "put", "same", "under", "show", "guess"]
theorem vIn_s4 (X : ExK) (kb : Bool → Prop) (a b c d e : String) : vIn (.str (Str.ofString a)) (.tup [.str (Str.ofString b), .str (Str.ofString c), .str (Str.ofString d), .str (Str.ofString e)]) X kb = kb (decide (a ∈ [b, c, d, e])) := vIn_strs X kb a [b, c, d, e]
theorem words_split : Txt.split (Str.ofString "let sum less tell room free move back read put same under show guess") (Str.ofString " ") = words.map Str.ofString := by decide +kernel
theorem s_straight (h : ∀ r : Row, r.ok → k r.u) : cal p__law_straight [.ref 2] X k () := by
  have l1 : (Str.ofString " ").length ≠ 0 := by decide +kernel
  have l2 : (Str.ofString "let sum less tell room free move back read put same under show guess").length + 2 ≤ line := by decide +kernel
  have ex : ∃ x, U.str (Str.ofString "let sum less tell room free move back read put same under show guess") = .str x := ⟨_, rfl⟩
  simp -dsimp only [cal, p__law_straight, pb__law_straight, vFn_def, vSeq_def, vAsg_def, vCal_def, vaCons_def, vaNil_def, vMs_def, vC_str, vSplit_def, words_split, eq_true l1, eq_true l2, eq_true ex, nxt_def, true_and, and_self, List.length_cons, List.length_nil, vVar_def]
  simp -dsimp
  refine (s_pickL (us := words.map (U.str ∘ Str.ofString)) (by simp [words]) (by simp [words]) fun u hu => ?_ : cal p__law_pick [.ref 2, .lst (words.map (U.str ∘ Str.ofString))] _ _ ())
  obtain ⟨w, hw, rfl⟩ := List.mem_map.mp hu
  refine s_pick8 fun n => ?_
  simp -dsimp
  refine s_operand fun x hx => ?_
  simp -dsimp
  refine s_operand fun y hy => ?_
  simp -dsimp [ofS_inj]
  by_cases c1 : w = "room"
  · subst c1
    simp -dsimp [p__law_draw]
    intro v hv
    exact h (.room n (1 + v)) ⟨by omega, by omega⟩
  simp -dsimp [c1, vIn_s2]
  by_cases c2 : w = "tell" ∨ w = "free"
  · rcases c2 with rfl | rfl
    · simp -dsimp; exact h (.tell x) hx
    · simp -dsimp; exact h (.free x) hx
  simp -dsimp [c2]
  by_cases c3 : w = "put"
  · subst c3
    simp -dsimp
    exact h (.put x y) ⟨hx, hy⟩
  simp -dsimp [c3, vIn_s4]
  by_cases c4 : w = "let" ∨ w = "read" ∨ w = "show" ∨ w = "guess"
  · rcases c4 with rfl | rfl | rfl | rfl
    · simp -dsimp; exact h (.let_ n x) hx
    · simp -dsimp; exact h (.read n x) hx
    · simp -dsimp; exact h (.show_ n x) hx
    · simp -dsimp; exact h (.guess n x) hx
  simp -dsimp [c4]
  simp only [words, List.mem_cons, List.not_mem_nil, or_false] at hw
  have hw' : w = "sum" ∨ w = "less" ∨ w = "move" ∨ w = "back" ∨ w = "same" ∨ w = "under" := by
    rcases hw with e | e | e | e | e | e | e | e | e | e | e | e | e | e <;> simp [e] at c1 c2 c3 c4 ⊢
  rcases hw' with rfl | rfl | rfl | rfl | rfl | rfl
  · exact h (.sum n x y) ⟨hx, hy⟩
  · exact h (.less n x y) ⟨hx, hy⟩
  · exact h (.move n x y) ⟨hx, hy⟩
  · exact h (.back n x y) ⟨hx, hy⟩
  · exact h (.same n x y) ⟨hx, hy⟩
  · exact h (.under n x y) ⟨hx, hy⟩
end
end HL
namespace HL
open PySem PySem.Spec PyProof.Rows L2 HA HV
theorem z_rows : ∀ f : Nat, (∀ (deep L n : Nat) (σ : Sto) (X : ExS) (k : U → MP), 2 * deep + 1 ≤ f → deep ≤ 100 → 1 ≤ L → σ n = some (.lst [.int L]) → (∀ (r : Rw) (L' : Nat), r.wf → r.tm = true → r.dp ≤ deep → r.cnt + L' = L → k r.u (updS σ n (.lst [.int L']))) → p__law_row f [.ref 2, .int deep, .ref n] X k σ)
  ∧ (∀ (deep L n fewest : Nat) (σ : Sto) (X : ExS) (k : U → MP), 2 * deep + 2 ≤ f → deep ≤ 100 → fewest ≤ 100 → σ n = some (.lst [.int L]) → (∀ (rs : List Rw) (L' : Nat), Rw.wfs rs → Rw.tms rs = true → Rw.dps rs ≤ deep → Rw.cnts rs + L' = L → k (.tup (Rw.us rs)) (updS σ n (.lst [.int L']))) → p__law_rows f [.ref 2, .int deep, .ref n, .int fewest] X k σ)
  | 0 => ⟨fun _ _ _ _ _ _ h => by omega, fun _ _ _ _ _ _ _ h => by omega⟩
  | f + 1 => by
    obtain ⟨ih1, ih2⟩ := z_rows f
    refine ⟨fun deep L n σ X k hf hd hL hn hk => ?_, fun deep L n fewest σ X k hf hd hw hn hk => ?_⟩
    · have e0 : ixN 1 0 = some 0 := by decide
      have r1 : ∀ c, rst σ (updS σ n c) = updS σ n c := fun c => by rw [rst_old hn, rst_self]
      have e1 : ((L : Int) - 1) = ((L - 1 : Nat) : Int) := by omega
      unfold p__law_row
      simp -dsimp [qb__law_row, p__law_draw, hn, e0, e1]
      intro v hv
      have st : (cal p__law_straight [U.ref 2] (fun c f => X c f (rst σ (updS σ n (.lst [.int ((L - 1 : Nat) : Int)])))) (fun u => k u (rst σ (updS σ n (.lst [.int ((L - 1 : Nat) : Int)])))) ()) := by
        refine s_straight fun r hr => ?_
        rw [r1]
        exact hk (.st r) (L - 1) hr rfl (by simp only [Rw.dp]; omega) (by simp only [Rw.cnt]; omega)
      by_cases c1 : (v : Int) < 4
      · simp -dsimp [c1]; exact st
      by_cases c2 : deep = 0
      · subst c2; simp -dsimp [c1]; exact st
      have c2' : ¬ ((deep : Int) = 0) := by omega
      have e2 : ((deep : Int) - 1) = ((deep - 1 : Nat) : Int) := by omega
      have n1 : updS σ n (.lst [.int ((L - 1 : Nat) : Int)]) n = some (.lst [.int ((L - 1 : Nat) : Int)]) := updS_same
      by_cases c3 : (v : Int) = 4
      · simp -dsimp [c1, c2, c2', c3, p__law_draw]
        intro t ht
        rw [e2]
        refine (ih2 (deep - 1) (L - 1) n 0 _ _ _ (by omega) (by omega) (by omega) n1 fun rs L' h1 h2 h3 h4 => ?_ : calZ (p__law_rows f) [.ref 2, .int ((deep - 1 : Nat) : Int), .ref n, .int 0] _ _ () _)
        simp -dsimp [r1]
        refine hk (.ag t rs) L' h1 ?_ (by simp only [Rw.dp]; omega) (by simp only [Rw.cnt]; omega)
        have : (t : Int) ≤ 5 := by omega
        simp [Rw.tm, h2, this]
      · simp -dsimp [c1, c2, c2', c3]
        refine s_operand fun x hx => ?_
        simp -dsimp
        rw [e2]
        refine (ih2 (deep - 1) (L - 1) n 0 _ _ _ (by omega) (by omega) (by omega) n1 fun rs L' h1 h2 h3 h4 => ?_ : calZ (p__law_rows f) [.ref 2, .int ((deep - 1 : Nat) : Int), .ref n, .int 0] _ _ () _)
        simp -dsimp
        rw [e2]
        refine (ih2 (deep - 1) L' n 0 _ _ _ (by omega) (by omega) (by omega) updS_same fun rs' L2 g1 g2 g3 g4 => ?_ : calZ (p__law_rows f) [.ref 2, .int ((deep - 1 : Nat) : Int), .ref n, .int 0] _ _ () _)
        simp -dsimp [r1]
        refine hk (.iff x rs rs') L2 ⟨hx, h1, g1⟩ ?_ (by simp only [Rw.dp]; omega) (by simp only [Rw.cnt]; omega)
        simp [Rw.tm, h2, g2]
    · unfold p__law_rows
      simp -dsimp [qb__law_rows, p__law_draw, hn]
      refine aN_i fun m m3 hm => ?_
      have nm : n ≠ m := sne hn hm
      simp -dsimp [p__law_draw]
      intro v hv
      refine ⟨by omega, by omega, ?_⟩
      refine forZ_goM U.int (I := fun i Γ τ => ∃ x5 acc L', Γ = [some (U.ref 2), some (U.int (deep : Int)), some (U.ref n), some (U.int (fewest : Int)), some (U.ref m), x5] ∧ τ = updS (updS σ m (.lst (Rw.us acc))) n (.lst [.int (L' : Nat)]) ∧ acc.length ≤ i ∧ Rw.wfs acc ∧ Rw.tms acc = true ∧ Rw.dps acc ≤ deep ∧ Rw.cnts acc + L' = L) ?_ ?_ ?_
      · refine ⟨_, [], L, rfl, ?_, by simp, trivial, rfl, by simp [Rw.dps], by simp [Rw.cnts]⟩
        exact (updS_self (by rw [updS_ne nm]; exact hn)).symm
      · rintro i y Γ τ nx bk hi ⟨x5, acc, L', rfl, rfl, hl, h1, h2, h3, h4⟩ hnx
        have il := (List.getElem?_eq_some_iff.mp hi).1
        rw [rng_length] at il
        refine ⟨_, rfl, ?_⟩
        simp -dsimp
        by_cases c : L' = 0
        · subst c
          simp -dsimp
          exact hnx _ _ ⟨_, acc, 0, rfl, rfl, by omega, h1, h2, h3, h4⟩
        · have c' : 0 < L' := by omega
          simp -dsimp [c', nm.symm]
          refine (ih1 deep L' n _ _ _ (by omega) hd (by omega) updS_same fun r L2 g1 g2 g3 g4 => ?_ : calZ (p__law_row f) [.ref 2, .int (deep : Int), .ref n] _ _ () _)
          have la : (Rw.us acc).length < 16777216 := by rw [us_len]; omega
          simp -dsimp [nm.symm, la]
          refine hnx _ _ ⟨_, acc ++ [r], L2, rfl, ?_, by simp; omega, (wfs_app _ _).mpr ⟨h1, g1, trivial⟩, ?_, ?_, ?_⟩
          · rw [us_app, updS_comm nm, updS_twice]
            rfl
          · rw [tms_app, h2]; simp [Rw.tms, g2]
          · rw [dps_app]; simp only [Rw.dps]; omega
          · rw [cnts_app]; simp only [Rw.cnts]; omega
      · rintro Γ τ ⟨x5, acc, L', rfl, rfl, hl, h1, h2, h3, h4⟩
        simp -dsimp [nm.symm]
        rw [rst_old hn, rst_new hm, rst_self]
        exact hk acc L' h1 h2 h3 h4
end HL
namespace HL
open PySem PySem.Spec PyProof.Rows L2 HA HV
theorem letF_sz {m : Nat} (n : Fin 8) : Sz (m + 1) 1 (.str (letF n)) := Sz.lit (letC n) (by revert n; decide +kernel)
theorem Opd.sz {m : Nat} {x : Opd} (h : x.ok) : Sz (m + 1) 20 x.u := by
  cases x with
  | num i => exact Sz.num (by have h : 0 ≤ i ∧ i ≤ 999 := h; omega)
  | reg n => exact (letF_sz n).mono (Nat.le_refl _) (by decide)
def wordsR : List String := ["let", "sum", "less", "tell", "room", "free", "move", "back", "read", "put", "same", "under", "show", "guess"]
theorem Row.n_in (r : Row) : r.n ∈ wordsR := by cases r <;> simp [Row.n, wordsR]
theorem words_len : ∀ z ∈ wordsR, (Str.ofString z).cps.size ≤ 5 := by decide +kernel
theorem Row.sz {r : Row} (h : r.ok) : Sz 2 70 r.u := by
  have w : Sz 1 5 (.str (Str.ofString r.n)) := Sz.lit _ (words_len _ r.n_in)
  have X : ∀ {x : Opd}, x.ok → Sz 1 20 x.u := fun h => Opd.sz h
  have F : ∀ n : Fin 8, Sz 1 1 (.str (letF n)) := fun n => letF_sz n
  have o : Szs 1 64 r.us := by
    cases r with
    | let_ n x => exact (Szs.cons (F n) (Szs.cons (X h) Szs.nil)).mono (Nat.le_refl _) (by decide)
    | sum n x y => exact (Szs.cons (F n) (Szs.cons (X h.1) (Szs.cons (X h.2) Szs.nil))).mono (Nat.le_refl _) (by decide)
    | less n x y => exact (Szs.cons (F n) (Szs.cons (X h.1) (Szs.cons (X h.2) Szs.nil))).mono (Nat.le_refl _) (by decide)
    | tell x => exact (Szs.cons (X h) Szs.nil).mono (Nat.le_refl _) (by decide)
    | room n m => exact (Szs.cons (F n) (Szs.cons (Sz.num (by have h : 1 ≤ m ∧ m ≤ 8 := h; omega)) Szs.nil)).mono (Nat.le_refl _) (by decide)
    | free x => exact (Szs.cons (X h) Szs.nil).mono (Nat.le_refl _) (by decide)
    | move n x y => exact (Szs.cons (F n) (Szs.cons (X h.1) (Szs.cons (X h.2) Szs.nil))).mono (Nat.le_refl _) (by decide)
    | back n x y => exact (Szs.cons (F n) (Szs.cons (X h.1) (Szs.cons (X h.2) Szs.nil))).mono (Nat.le_refl _) (by decide)
    | read n x => exact (Szs.cons (F n) (Szs.cons (X h) Szs.nil)).mono (Nat.le_refl _) (by decide)
    | put x y => exact (Szs.cons (X h.1) (Szs.cons (X h.2) Szs.nil)).mono (Nat.le_refl _) (by decide)
    | same n x y => exact (Szs.cons (F n) (Szs.cons (X h.1) (Szs.cons (X h.2) Szs.nil))).mono (Nat.le_refl _) (by decide)
    | under n x y => exact (Szs.cons (F n) (Szs.cons (X h.1) (Szs.cons (X h.2) Szs.nil))).mono (Nat.le_refl _) (by decide)
    | show_ n x => exact (Szs.cons (F n) (Szs.cons (X h) Szs.nil)).mono (Nat.le_refl _) (by decide)
    | guess n x => exact (Szs.cons (F n) (Szs.cons (X h) Szs.nil)).mono (Nat.le_refl _) (by decide)
  exact Sz.tup (Szs.cons w o)
mutual
def Rw.sm : Rw → Prop
  | .st _ => True
  | .ag t rs => t.natAbs < 1048576 ∧ Rw.sms rs
  | .iff _ a b => Rw.sms a ∧ Rw.sms b
def Rw.sms : List Rw → Prop
  | [] => True
  | r :: rs => r.sm ∧ Rw.sms rs
end
theorem sms_app : ∀ a b : List Rw, Rw.sms (a ++ b) ↔ Rw.sms a ∧ Rw.sms b
  | [], b => by simp [Rw.sms]
  | r :: a, b => by rw [List.cons_append]; simp only [Rw.sms, sms_app a b, and_assoc]
theorem rw_sz' (r : Rw) : r.wf → r.sm → Sz (2 * r.dp + 2) (71 * r.cnt - 1) r.u := by
  induction r using Rw.rec (motive_2 := fun rs => Rw.wfs rs → Rw.sms rs → Szs (2 * Rw.dps rs + 2) (71 * Rw.cnts rs) (Rw.us rs)) with
  | st r => exact fun h _ => (Row.sz h).mono (by simp [Rw.dp]) (by simp [Rw.cnt])
  | ag t rs ih =>
    intro hw hs
    have i := ih hw hs.2
    have w : Sz (2 * Rw.dps rs + 3) 5 (wd "again") := Sz.lit _ (by decide +kernel)
    refine (Sz.tup (Szs.cons w (Szs.cons (Sz.num hs.1) (Szs.cons (Sz.tup i) Szs.nil)))).mono (by simp only [Rw.dp]; omega) (by simp only [Rw.cnt]; omega)
  | iff x a b ih1 ih2 =>
    intro hw hs
    have i := (ih1 hw.2.1 hs.1).mono (n' := 2 * max (Rw.dps a) (Rw.dps b) + 2) (by omega) (Nat.le_refl _)
    have j := (ih2 hw.2.2 hs.2).mono (n' := 2 * max (Rw.dps a) (Rw.dps b) + 2) (by omega) (Nat.le_refl _)
    have w : Sz (2 * max (Rw.dps a) (Rw.dps b) + 3) 2 (wd "if") := Sz.lit _ (by decide +kernel)
    refine (Sz.tup (Szs.cons w (Szs.cons (Opd.sz hw.1) (Szs.cons (Sz.tup i) (Szs.cons (Sz.tup j) Szs.nil))))).mono (by simp only [Rw.dp]; omega) (by simp only [Rw.cnt]; omega)
  | nil => exact Szs.nil.mono (Nat.zero_le _) (Nat.zero_le _)
  | cons r rs ih1 ih2 =>
    rename_i hw hs
    have c := cnt_pos r
    refine (Szs.cons ((ih1 hw.1 hs.1).mono (n' := 2 * max r.dp (Rw.dps rs) + 2) (by omega) (Nat.le_refl _)) ((ih2 hw.2 hs.2).mono (n' := 2 * max r.dp (Rw.dps rs) + 2) (by omega) (Nat.le_refl _))).mono (by simp only [Rw.dps]; omega) (by simp only [Rw.cnts]; omega)
theorem rws_sz : ∀ rs : List Rw, Rw.wfs rs → Rw.sms rs → Szs (2 * Rw.dps rs + 2) (71 * Rw.cnts rs) (Rw.us rs)
  | [], _, _ => Szs.nil.mono (Nat.zero_le _) (Nat.zero_le _)
  | r :: rs, hw, hs => by
    have c := cnt_pos r
    refine (Szs.cons ((rw_sz' r hw.1 hs.1).mono (n' := 2 * max r.dp (Rw.dps rs) + 2) (by omega) (Nat.le_refl _)) ((rws_sz rs hw.2 hs.2).mono (n' := 2 * max r.dp (Rw.dps rs) + 2) (by omega) (Nat.le_refl _))).mono (by simp only [Rw.dps]; omega) (by simp only [Rw.cnts]; omega)
theorem repr_rows {rs : List Rw} (hw : Rw.wfs rs) (hs : Rw.sms rs) (hd : Rw.dps rs ≤ 20) (hc : Rw.cnts rs ≤ 600) (X : ExK) (k : U → Prop) : vRepr [.tup (Rw.us rs)] X k = k (.str (shw (.tup (Rw.us rs)))) :=
  (Sz.tup (rws_sz rs hw hs)).repr (by omega) (by omega)
end HL
namespace HL
open PySem PySem.Spec PyProof.Rows L2 HA HV
theorem tm_sm' (r : Rw) : r.tm = true → r.sm := by
  induction r using Rw.rec (motive_2 := fun rs => Rw.tms rs = true → Rw.sms rs) with
  | st r => exact fun _ => trivial
  | ag t rs ih =>
    intro h
    simp only [Rw.tm, Bool.and_eq_true, decide_eq_true_eq] at h
    exact ⟨by omega, ih h.2⟩
  | iff x a b ih1 ih2 =>
    intro h
    simp only [Rw.tm, Bool.and_eq_true] at h
    exact ⟨ih1 h.1, ih2 h.2⟩
  | nil => trivial
  | cons r rs ih1 ih2 =>
    rename_i h
    simp only [Rw.tms, Bool.and_eq_true] at h
    exact ⟨ih1 h.1, ih2 h.2⟩
theorem tms_sms : ∀ rs : List Rw, Rw.tms rs = true → Rw.sms rs
  | [], _ => trivial
  | r :: rs, h => by
    simp only [Rw.tms, Bool.and_eq_true] at h
    exact ⟨tm_sm' r h.1, tms_sms rs h.2⟩
structure Rw.Drawn (rs : List Rw) : Prop where
  wf : Rw.wfs rs
  tm : Rw.tms rs = true
  dp : Rw.dps rs ≤ 3
  cnt : Rw.cnts rs ≤ 60
theorem z_program {σ : Sto} {X : ExS} {k : U → MP} (hk : ∀ rs : List Rw, Rw.Drawn rs → k (.tup (Rw.us rs)) σ) : calZ p__law_program [.ref 2] X k () σ := by
  refine (?_ : p__law_program [.ref 2] X k σ)
  simp -dsimp [p__law_program, qb__law_program, p__law_draw]
  intro v hv
  by_cases c : v = 5
  · subst c
    simp -dsimp
    refine aN_i fun m m3 hm => ?_
    simp -dsimp [p__law_draw]
    intro w hw
    refine ((z_rows 20).2 3 60 m 30 _ _ _ (by omega) (by omega) (by omega) updS_same fun rs L' w1 w2 w3 w4 => ?_ : calZ (p__law_rows 20) [.ref 2, .int 3, .ref m, .int 30] _ _ () _)
    rw [updS_twice, rst_new hm, rst_self]
    exact hk rs ⟨w1, w2, w3, by omega⟩
  · have c' : ¬ ((v : Int) = 5) := by omega
    simp -dsimp [c, c']
    refine aN_i fun m m3 hm => ?_
    simp -dsimp [p__law_draw]
    intro w hw
    simp -dsimp [c, c']
    refine ((z_rows 20).2 3 20 m w _ _ _ (by omega) (by omega) (by omega) updS_same fun rs L' w1 w2 w3 w4 => ?_ : calZ (p__law_rows 20) [.ref 2, .int 3, .ref m, .int w] _ _ () _)
    rw [updS_twice, rst_new hm, rst_self]
    exact hk rs ⟨w1, w2, w3, by omega⟩
end HL
namespace HL
open PySem PySem.Spec PyProof.Rows L2 HA HV
def BI : Nat := 10 ^ 40
inductive Dt : Nat → U → Prop
  | non {n} : Dt (n + 1) .non
  | bl {n} (b : Bool) : Dt (n + 1) (.bl b)
  | int {n} (i : Int) (h : i.natAbs ≤ BI) : Dt (n + 1) (.int i)
  | str {n} (x : Str) (h : PyData.strOk x = true) (l : x.cps.size ≤ 20000) : Dt (n + 1) (.str x)
  | tup {n} (us : List U) (h : ∀ u ∈ us, Dt n u) (l : us.length ≤ 20000) : Dt (n + 1) (.tup us)
  | lst {n} (us : List U) (h : ∀ u ∈ us, Dt n u) (l : us.length ≤ 20000) : Dt (n + 1) (.lst us)
  | dk {n} (ks : List Key) (us : List U) : Dt (n + 1) (.dK ks us)
theorem Dt.up : ∀ {n : Nat} {u : U}, Dt n u → Dt (n + 1) u
  | _, _, .non => .non
  | _, _, .bl b => .bl b
  | _, _, .int i h => .int i h
  | _, _, .str x h l => .str x h l
  | _, _, .tup us h l => .tup us (fun u hu => (h u hu).up) l
  | _, _, .lst us h l => .lst us (fun u hu => (h u hu).up) l
  | _, _, .dk ks us => .dk ks us
def isI : U → Bool
  | .int _ => true
  | _ => false
def isB : U → Bool
  | .bl _ => true
  | _ => false
def isT : U → Bool
  | .tup _ => true
  | _ => false
def isS : U → Bool
  | .str _ => true
  | _ => false
def nB (lo hi : Int) : U → Bool
  | .int i => decide (lo ≤ i) && decide (i ≤ hi)
  | _ => false
section
variable (X : ExK) (k : U → Prop) {n : Nat} {u : U}
end
def wt (n : Nat) (u : U) : Nat := match uP n u with
  | some p => p.weight
  | none => 0
def sz (n : Nat) (us : List U) : Nat := (us.map (wt n)).sum + us.length
theorem Sz.wt {n w : Nat} {u : U} (h : Sz n w u) : Sz n (wt n u) u ∧ HL.wt n u ≤ w := by
  obtain ⟨p, h1, h2, h3⟩ := h
  have : HL.wt n u = p.weight := by simp [HL.wt, h1]
  exact ⟨⟨p, h1, h2, by omega⟩, by omega⟩
theorem Szs.iff {n : Nat} : ∀ {w : Nat} {us : List U}, Szs n w us ↔ (∀ u ∈ us, Sz n (HL.wt n u) u) ∧ sz n us ≤ w
  | w, [] => ⟨fun _ => ⟨by simp, by simp [sz]⟩, fun h => Szs.nil.mono (Nat.le_refl _) (Nat.zero_le _)⟩
  | w, u :: us => by
    constructor
    · intro h
      obtain ⟨ps, h1, h2, h3⟩ := h
      simp only [optAll] at h1
      cases hu : uP n u with
      | none => rw [hu] at h1; cases h1
      | some p =>
        rw [hu] at h1
        cases hus : optAll (uP n) us with
        | none => rw [hus] at h1; simp at h1
        | some qs =>
          rw [hus] at h1
          simp at h1
          subst h1
          simp only [tames, Bool.and_eq_true] at h2
          simp only [PyData.weightAll] at h3
          have ih := (Szs.iff (n := n) (us := us) (w := PyData.weightAll qs)).mp ⟨qs, hus, h2.2, Nat.le_refl _⟩
          have e : HL.wt n u = p.weight := by simp [HL.wt, hu]
          refine ⟨fun x hx => ?_, ?_⟩
          · rcases List.mem_cons.mp hx with rfl | hx
            · exact ⟨p, hu, h2.1, by omega⟩
            · exact ih.1 x hx
          · have := ih.2
            simp only [sz, List.map_cons, List.sum_cons, List.length_cons] at this ⊢
            omega
    · rintro ⟨h1, h2⟩
      have h2' : HL.wt n u + 1 + sz n us ≤ w := by
        simp only [sz, List.map_cons, List.sum_cons, List.length_cons] at h2 ⊢
        omega
      exact (Szs.cons (h1 u List.mem_cons_self) ((Szs.iff (n := n) (us := us) (w := sz n us)).mpr ⟨fun x hx => h1 x (List.mem_cons_of_mem _ hx), Nat.le_refl _⟩)).mono (Nat.le_refl _) h2'
theorem cut_mid {α : Type} (xs : List α) (i : Nat) : HA.cut xs (some (i : Int)) (some ((i : Int) + 2)) = (xs.drop i).take 2 := by
  unfold HA.cut
  rw [show ((i : Int) + 2) = ((i + 2 : Nat) : Int) by omega, HT.sIx_nat, HT.sIx_nat]
  by_cases h : i ≤ xs.length
  · rw [Nat.min_eq_left h, List.take_eq_take_iff]
    simp
    omega
  · rw [Nat.min_eq_right (by omega : xs.length ≤ i), List.drop_of_length_le (Nat.le_refl _), List.drop_of_length_le (by omega)]
    simp
inductive Ds (B : Nat) : Nat → U → Prop
  | non {n} : Ds B (n + 1) .non
  | bl {n} (b : Bool) : Ds B (n + 1) (.bl b)
  | int {n} (i : Int) (h : i.natAbs ≤ 10 ^ 39 + B) : Ds B (n + 1) (.int i)
  | str {n} (x : Str) (h : PyData.strOk x = true) (l : x.cps.size ≤ B) : Ds B (n + 1) (.str x)
  | tup {n} (us : List U) (h : ∀ u ∈ us, Ds B n u) (l : us.length ≤ B) : Ds B (n + 1) (.tup us)
  | lst {n} (us : List U) (h : ∀ u ∈ us, Ds B n u) (l : us.length ≤ B) : Ds B (n + 1) (.lst us)
  | dk {n} (ks : List Key) (us : List U) : Ds B (n + 1) (.dK ks us)
theorem Ds.mono {B C : Nat} (hB : B ≤ C) : ∀ {n m : Nat} {u : U}, n ≤ m → Ds B n u → Ds C m u := by
  intro n
  induction n with
  | zero => intro m u _ h; cases h
  | succ n ih =>
    intro m u hm h
    obtain ⟨m, rfl⟩ : ∃ j, m = j + 1 := ⟨m - 1, by omega⟩
    have hm' : n ≤ m := by omega
    cases h with
    | non => exact .non
    | bl b => exact .bl b
    | int i h => exact .int i (by omega)
    | str x h l => exact .str x h (by omega)
    | tup us h l => exact .tup us (fun u hu => ih hm' (h u hu)) (by omega)
    | lst us h l => exact .lst us (fun u hu => ih hm' (h u hu)) (by omega)
    | dk ks us => exact .dk ks us
theorem bi_le {B : Nat} (hB : B ≤ 4000) : 10 ^ 39 + B ≤ BI := by
  have : (10 : Nat) ^ 39 + 4000 ≤ BI := by decide +kernel
  omega
theorem Ds.dt {B : Nat} (hB : B ≤ 4000) : ∀ {n : Nat} {u : U}, Ds B n u → Dt n u
  | _, _, .non => .non
  | _, _, .bl b => .bl b
  | _, _, .int i h => .int i (Nat.le_trans h (bi_le hB))
  | _, _, .str x h l => .str x h (by omega)
  | _, _, .tup us h l => .tup us (fun u hu => (h u hu).dt hB) (by omega)
  | _, _, .lst us h l => .lst us (fun u hu => (h u hu).dt hB) (by omega)
  | _, _, .dk ks us => .dk ks us
theorem Sz.dint {B n : Nat} (hB : B ≤ 4000) {i : Int} (h : i.natAbs ≤ 10 ^ 39 + B) : Sz (n + 1) 281 (.int i) := Sz.int (by
  have : (10 : Nat) ^ 39 + 4000 ≤ BIG := by decide +kernel
  omega)
open Unicode UnicodeData in
theorem strOk_iff {x : Str} : PyData.strOk x = true ↔ ∀ c ∈ x.cps.toList, c < 0x110000 := by
  unfold PyData.strOk
  rw [← Array.all_toList, List.all_eq_true]
  simp
theorem Sz.ok_str {n : Nat} {x : Str} (h : PyData.strOk x = true) : Sz (n + 1) x.cps.size (.str x) := Sz.str (List.all_eq_true.mpr fun c hc => decide_eq_true (Nat.lt_trans (strOk_iff.mp h c hc) (by decide)))
theorem toStr_sz {i : Int} (h : i.natAbs < 2 ^ 290) : (Str.ofString (toString i)).cps.size ≤ 300 := by
  have l : i.natAbs.log2 < 290 := log2_lt (by decide) h
  have := int_text_length_le (k := 290) (by decide) l
  rw [← PySem.ofString_length] at this
  exact Nat.le_trans this (by decide)
structure Gd (B n w : Nat) (u : U) : Prop where
  d : Ds B n u
  z : Sz n w u
theorem Gd.mono {B C n m w v : Nat} {u : U} (h : Gd B n w u) (hB : B ≤ C) (hn : n ≤ m) (hw : w ≤ v) : Gd C m v u := ⟨h.d.mono hB hn, h.z.mono hn hw⟩
section
variable {X : ExK} {k : U → Prop} {B n w : Nat} {u : U}
theorem Gd.non : Gd B (n + 1) w .non := ⟨.non, Sz.non.mono (Nat.le_refl _) (Nat.zero_le _)⟩
theorem Gd.bl (b : Bool) : Gd B (n + 1) w (.bl b) := ⟨.bl b, Sz.bl.mono (Nat.le_refl _) (Nat.zero_le _)⟩
theorem Gd.int {i : Int} (h : i.natAbs ≤ 10 ^ 39 + B) (hB : B ≤ 4000) (hw : 281 ≤ w) : Gd B (n + 1) w (.int i) := ⟨.int i h, (Sz.dint hB h).mono (Nat.le_refl _) hw⟩
theorem Gd.num {i : Int} (h : i.natAbs ≤ 2000) (hB : B ≤ 4000) (hw : 281 ≤ w) : Gd B (n + 1) w (.int i) := Gd.int (by
  have : 2000 ≤ (10 : Nat) ^ 39 := by decide +kernel
  omega) hB hw
theorem Gd.str {x : Str} (h : PyData.strOk x = true) (l : x.cps.size ≤ B) (hw : B ≤ w) : Gd B (n + 1) w (.str x) := ⟨.str x h l, (Sz.ok_str h).mono (Nat.le_refl _) (by omega)⟩
theorem Gd.tup {us : List U} (h : ∀ u ∈ us, Ds B n u) (l : us.length ≤ B) (hz : Szs n w us) : Gd B (n + 1) w (.tup us) := ⟨.tup us h l, Sz.tup hz⟩
theorem Gd.lst {us : List U} (h : ∀ u ∈ us, Ds B n u) (l : us.length ≤ B) (hz : Szs n w us) : Gd B (n + 1) w (.lst us) := ⟨.lst us h l, Sz.lst hz⟩
theorem Gd.tup1 {a : U} {v : Nat} (h : Gd B n v a) (l : 1 ≤ B) (hw : v + 1 ≤ w) : Gd B (n + 1) w (.tup [a]) := Gd.tup (fun u hu => by rw [List.mem_singleton] at hu; subst hu; exact h.d) (by simpa using l) ((Szs.cons h.z Szs.nil).mono (Nat.le_refl _) (by omega))
theorem Gd.lst1 {a : U} {v : Nat} (h : Gd B n v a) (l : 1 ≤ B) (hw : v + 1 ≤ w) : Gd B (n + 1) w (.lst [a]) := Gd.lst (fun u hu => by rw [List.mem_singleton] at hu; subst hu; exact h.d) (by simpa using l) ((Szs.cons h.z Szs.nil).mono (Nat.le_refl _) (by omega))
theorem Gd.tup2 {a b : U} {v : Nat} (h : Gd B n v a) (g : Gd B n v b) (l : 2 ≤ B) (hw : 2 * v + 2 ≤ w) : Gd B (n + 1) w (.tup [a, b]) := Gd.tup (fun u hu => by
  simp only [List.mem_cons, List.not_mem_nil, or_false] at hu
  rcases hu with rfl | rfl
  · exact h.d
  · exact g.d) (by simpa using l) ((Szs.cons h.z (Szs.cons g.z Szs.nil)).mono (Nat.le_refl _) (by omega))
theorem Gd.nil : Gd B (n + 1) w (.tup []) := Gd.tup (by simp) (by simp) (Szs.nil.mono (Nat.le_refl _) (Nat.zero_le _))
theorem Gd.nilL : Gd B (n + 1) w (.lst []) := Gd.lst (by simp) (by simp) (Szs.nil.mono (Nat.le_refl _) (Nat.zero_le _))
end
end HL
namespace HL
open PySem PySem.Spec PyProof.Rows L2 HA HV TL Builtin Builtin.Str
def sh (p : PyData) : List Nat := tl p.shown
theorem repr_head (x : Str) : ∃ r, tl (reprText x) = reprQuote x :: r := by
  have : ∀ (l : List Nat) (acc : Array Nat) (a : Nat) (t : List Nat), acc.toList = a :: t → ∃ r, (l.foldl (fun out c => out ++ (reprChar (reprQuote x) c).toArray) acc).toList = a :: r := by
    intro l
    induction l with
    | nil => intro acc a t h; exact ⟨t, h⟩
    | cons c l ih =>
      intro acc a t h
      refine ih _ a (t ++ reprChar (reprQuote x) c) ?_
      simp [h]
  obtain ⟨r, h⟩ := this x.cps.toList #[reprQuote x] _ [] rfl
  refine ⟨r ++ [reprQuote x], ?_⟩
  show ((x.cps.foldl (fun out c => out ++ (reprChar (reprQuote x) c).toArray) #[reprQuote x]).push (reprQuote x)).toList = _
  rw [Array.toList_push, ← Array.foldl_toList, h]
  rfl
theorem quote_or (x : Str) : reprQuote x = 34 ∨ reprQuote x = 39 := by
  unfold reprQuote
  split
  · exact .inl rfl
  · exact .inr rfl
theorem sh_neg (n : Nat) : sh (.int (Int.negSucc n)) = 45 :: numL (n + 1) := by
  have e : toString (Int.negSucc n) = "-" ++ toString (((n + 1 : Nat)) : Int) := rfl
  unfold sh
  rw [PyData.shown_int, e, tl_ofString, String.toList_append, List.map_append, ← tl_ofString, ← tl_ofString, tl_num]
  rfl
theorem sh_nat (n : Nat) : sh (.int (n : Int)) = numL n := by
  unfold sh
  rw [PyData.shown_int, tl_num]
theorem sh_int_head (i : Int) : ∃ c r, sh (.int i) = c :: r ∧ (c = 45 ∨ (48 ≤ c ∧ c ≤ 57)) := by
  cases i with
  | ofNat n =>
    have e := sh_nat n
    cases h : numL n with
    | nil => exact absurd h (numL_ne n)
    | cons c r =>
      refine ⟨c, r, e.trans h, .inr ?_⟩
      exact numL_digits n c (by rw [h]; exact List.mem_cons_self)
  | negSucc n => exact ⟨45, _, sh_neg n, .inl rfl⟩
theorem tupH (xs : List PyData) : sh (.tuple xs) = 40 :: (joinL [44, 32] (xs.map sh) ++ (if xs.length = 1 then [44, 41] else [41])) := by
  unfold sh
  rw [PyData.shown_tuple, tl_append, tl_append, tl_join]
  have e1 : tl ("(" : Str) = [40] := by decide +kernel
  have e2 : tl (", " : Str) = [44, 32] := by decide +kernel
  have e3 : ∀ xs : List PyData, (PyData.shownAll xs).map tl = xs.map sh := by
    intro xs
    induction xs with
    | nil => simp [PyData.shownAll]
    | cons x xs ih => simp [PyData.shownAll, ih, sh]
  rw [e1, e2, e3]
  by_cases h : xs.length = 1
  · have : tl (Str.ofString ",)") = [44, 41] := by decide +kernel
    simp [h, this]
    rfl
  · have : tl (Str.ofString ")") = [41] := by decide +kernel
    simp [h, this]
    rfl
theorem heads (p : PyData) : ∃ c r, sh p = c :: r ∧ (match p with
    | .int _ => c = 45 ∨ (48 ≤ c ∧ c ≤ 57)
    | .tuple _ => c = 40
    | _ => c ≠ 40 ∧ c ≠ 45 ∧ ¬ (48 ≤ c ∧ c ≤ 57)) := by
  cases p with
  | none => exact ⟨78, _, by unfold sh; rw [PyData.shown_none, tl_ofString]; rfl, by omega⟩
  | bool b =>
    cases b
    · exact ⟨70, _, by unfold sh; rw [PyData.shown_bool, if_neg (by decide), tl_ofString]; rfl, by omega⟩
    · exact ⟨84, _, by unfold sh; rw [PyData.shown_bool, if_pos (by decide), tl_ofString]; rfl, by omega⟩
  | int i => exact sh_int_head i
  | str x =>
    obtain ⟨r, h⟩ := repr_head x
    refine ⟨_, r, by unfold sh; rw [PyData.shown_str]; exact h, ?_⟩
    have := quote_or x
    dsimp only
    omega
  | list xs => exact ⟨91, _, by unfold sh; rw [PyData.shown_list, tl_append, tl_append]; rfl, by omega⟩
  | tuple xs => exact ⟨40, _, tupH xs, rfl⟩
  | dict kvs => exact ⟨123, _, by unfold sh; rw [PyData.shown_dict, tl_append, tl_append]; rfl, by omega⟩
def dlm (s : List Nat) : Prop := s.head? = some 44 ∨ s.head? = some 41
theorem digits_cut : ∀ (a b s t : List Nat), (∀ c ∈ a, 48 ≤ c ∧ c ≤ 57) → (∀ c ∈ b, 48 ≤ c ∧ c ≤ 57) → dlm s → dlm t → a ++ s = b ++ t → a = b ∧ s = t
  | [], [], s, t, _, _, _, _, e => ⟨rfl, e⟩
  | [], y :: b, s, t, _, hb, hs, _, e => by
    have := hb y List.mem_cons_self
    rw [List.nil_append] at e
    subst e
    simp [dlm] at hs
    omega
  | x :: a, [], s, t, ha, _, _, ht, e => by
    have := ha x List.mem_cons_self
    rw [List.nil_append] at e
    subst e
    simp [dlm] at ht
    omega
  | x :: a, y :: b, s, t, ha, hb, hs, ht, e => by
    simp only [List.cons_append, List.cons.injEq] at e
    obtain ⟨h1, h2⟩ := digits_cut a b s t (fun c hc => ha c (List.mem_cons_of_mem _ hc)) (fun c hc => hb c (List.mem_cons_of_mem _ hc)) hs ht e.2
    exact ⟨by rw [e.1, h1], h2⟩
def Prs {α : Type} (f : α → PyData) : Prop := ∀ (p : PyData) (y : α) (s t : List Nat), dlm s → dlm t → sh p ++ s = sh (f y) ++ t → p = f y ∧ s = t
theorem prs_int : Prs PyData.int := fun p j s t hs ht e => by
  obtain ⟨c, r, h, hc⟩ := heads p
  obtain ⟨d, q, h', hd⟩ := sh_int_head j
  have e0 := e
  rw [h, h'] at e0
  simp only [List.cons_append, List.cons.injEq] at e0
  have ecd := e0.1
  cases p with
  | int i =>
    cases i with
    | ofNat m =>
      have e1 : sh (.int (Int.ofNat m)) = numL m := sh_nat m
      cases j with
      | ofNat n =>
        have e2 : sh (.int (Int.ofNat n)) = numL n := sh_nat n
        rw [e1, e2] at e
        obtain ⟨z, w⟩ := digits_cut _ _ _ _ (numL_digits m) (numL_digits n) hs ht e
        exact ⟨by rw [numL_inj z], w⟩
      | negSucc n =>
        rw [e1] at h
        rw [sh_neg] at h'
        have := numL_digits m c (by rw [h]; exact List.mem_cons_self)
        have := (List.cons.inj h').1
        omega
    | negSucc m =>
      cases j with
      | ofNat n =>
        have e2 : sh (.int (Int.ofNat n)) = numL n := sh_nat n
        rw [e2] at h'
        rw [sh_neg] at h
        have := numL_digits n d (by rw [h']; exact List.mem_cons_self)
        have := (List.cons.inj h).1
        omega
      | negSucc n =>
        rw [sh_neg, sh_neg] at e
        simp only [List.cons_append, List.cons.injEq, true_and] at e
        obtain ⟨z, w⟩ := digits_cut _ _ _ _ (numL_digits (m + 1)) (numL_digits (n + 1)) hs ht e
        have := numL_inj z
        exact ⟨by rw [Nat.succ.inj this], w⟩
  | tuple xs => dsimp only at hc; omega
  | none => dsimp only at hc; omega
  | bool b => dsimp only at hc; omega
  | str x => dsimp only at hc; omega
  | list xs => dsimp only at hc; omega
  | dict kvs => dsimp only at hc; omega
def rst : List PyData → List Nat
  | [] => [41]
  | x :: xs => 44 :: 32 :: (sh x ++ rst xs)
theorem rst_dlm (xs : List PyData) (s : List Nat) : dlm (rst xs ++ s) := by
  cases xs with
  | nil => exact .inr rfl
  | cons _ _ => exact .inl rfl
theorem join_rst : ∀ (x : PyData) (xs : List PyData), joinL [44, 32] ((x :: xs).map sh) ++ [41] = sh x ++ rst xs
  | x, [] => rfl
  | x, y :: r => by
    have := join_rst y r
    show (sh x ++ ([44, 32] ++ joinL [44, 32] ((y :: r).map sh))) ++ [41] = _
    rw [List.append_assoc, List.append_assoc, this]
    simp [rst]
def tlT : List PyData → List Nat
  | [] => [41]
  | [x] => sh x ++ [44, 41]
  | x :: y :: r => sh x ++ rst (y :: r)
theorem tup_tl (xs : List PyData) : sh (.tuple xs) = 40 :: tlT xs := by
  rw [tupH]
  cases xs with
  | nil => rfl
  | cons x r =>
    cases r with
    | nil => rfl
    | cons y r =>
      have := join_rst x (y :: r)
      have ne : ¬ (x :: y :: r).length = 1 := by simp
      rw [if_neg ne, this]
      rfl
theorem rst_prs {α : Type} {f : α → PyData} (F : Prs f) : ∀ (xs : List PyData) (ys : List α) (s t : List Nat), rst xs ++ s = rst (ys.map f) ++ t → xs = ys.map f ∧ s = t
  | [], [], s, t, e => ⟨rfl, by simpa [rst] using e⟩
  | [], y :: ys, s, t, e => by simp [rst] at e
  | x :: xs, [], s, t, e => by simp [rst] at e
  | x :: xs, y :: ys, s, t, e => by
    simp only [List.map_cons, rst, List.cons_append, List.cons.injEq, true_and, List.append_assoc] at e
    obtain ⟨h1, h2⟩ := F x y _ _ (rst_dlm xs s) (rst_dlm (ys.map f) t) e
    obtain ⟨h3, h4⟩ := rst_prs F xs ys s t h2
    exact ⟨by rw [h1, h3, List.map_cons], h4⟩
theorem first_ne (y : PyData) (s : List Nat) (t : List Nat) : sh y ++ s ≠ 41 :: t := fun e => by
  obtain ⟨c, r, h, hc⟩ := heads y
  rw [h] at e
  simp only [List.cons_append, List.cons.injEq] at e
  cases y with
  | str x =>
    obtain ⟨r', h'⟩ := repr_head x
    have e1 : sh (.str x) = reprQuote x :: r' := by unfold sh; rw [PyData.shown_str]; exact h'
    rw [e1] at h
    have := (List.cons.inj h).1
    have := quote_or x
    omega
  | none =>
    have : sh .none = [78, 111, 110, 101] := by decide +kernel
    rw [this] at h
    have := (List.cons.inj h).1
    omega
  | bool b =>
    cases b
    · have : sh (.bool false) = [70, 97, 108, 115, 101] := by decide +kernel
      rw [this] at h
      have := (List.cons.inj h).1
      omega
    · have : sh (.bool true) = [84, 114, 117, 101] := by decide +kernel
      rw [this] at h
      have := (List.cons.inj h).1
      omega
  | int i => dsimp only at hc; omega
  | tuple xs => dsimp only at hc; omega
  | list xs =>
    have : ∃ r, sh (.list xs) = 91 :: r := ⟨_, by unfold sh; rw [PyData.shown_list, tl_append, tl_append]; rfl⟩
    obtain ⟨r', e1⟩ := this
    rw [e1] at h
    have := (List.cons.inj h).1
    omega
  | dict kvs =>
    have : ∃ r, sh (.dict kvs) = 123 :: r := ⟨_, by unfold sh; rw [PyData.shown_dict, tl_append, tl_append]; rfl⟩
    obtain ⟨r', e1⟩ := this
    rw [e1] at h
    have := (List.cons.inj h).1
    omega
theorem prs_tup {α : Type} {f : α → PyData} (F : Prs f) : Prs (fun l : List α => .tuple (l.map f)) := fun p l s t hs ht e => by
  obtain ⟨c, r, h, hc⟩ := heads p
  have e0 := e
  rw [h, tup_tl] at e0
  simp only [List.cons_append, List.cons.injEq] at e0
  have ec := e0.1
  have one : ∀ (s : List Nat), dlm ([44, 41] ++ s) := fun s => .inl rfl
  cases p with
  | tuple xs =>
    rw [tup_tl, tup_tl] at e
    simp only [List.cons_append, List.cons.injEq, true_and] at e
    match xs, l with
    | [], [] => exact ⟨rfl, by simpa [tlT] using e⟩
    | [], [y] =>
      simp only [List.map_cons, List.map_nil, tlT, List.append_assoc] at e
      exact absurd e.symm (first_ne _ _ _)
    | [], y :: z :: w =>
      simp only [List.map_cons, tlT, List.append_assoc] at e
      exact absurd e.symm (first_ne _ _ _)
    | [x], [] =>
      simp only [List.map_nil, tlT, List.append_assoc] at e
      exact absurd e (first_ne _ _ _)
    | x :: y :: w, [] =>
      simp only [List.map_nil, tlT, List.append_assoc] at e
      exact absurd e (first_ne _ _ _)
    | [x], [y] =>
      simp only [List.map_cons, List.map_nil, tlT, List.append_assoc] at e
      obtain ⟨h1, h2⟩ := F x y _ _ (one s) (one t) e
      exact ⟨by simp [h1], by simpa using h2⟩
    | [x], y :: z :: w =>
      simp only [List.map_cons, tlT, List.append_assoc] at e
      obtain ⟨h1, h2⟩ := F x y _ _ (one s) (rst_dlm (f z :: w.map f) t) e
      simp [rst] at h2
    | x :: z :: w, [y] =>
      simp only [List.map_cons, List.map_nil, tlT, List.append_assoc] at e
      obtain ⟨h1, h2⟩ := F x y _ _ (rst_dlm (z :: w) s) (one t) e
      simp [rst] at h2
    | x :: x2 :: w, y :: y2 :: v =>
      simp only [List.map_cons, tlT, List.append_assoc] at e
      obtain ⟨h1, h2⟩ := F x y _ _ (rst_dlm (x2 :: w) s) (rst_dlm (f y2 :: v.map f) t) e
      obtain ⟨h3, h4⟩ := rst_prs F (x2 :: w) (y2 :: v) s t h2
      exact ⟨by rw [h1, h3]; rfl, h4⟩
  | int i => dsimp only at hc; omega
  | none => dsimp only at hc; omega
  | bool b => dsimp only at hc; omega
  | str x => dsimp only at hc; omega
  | list xs => dsimp only at hc; omega
  | dict kvs => dsimp only at hc; omega
theorem prs_eq {α : Type} {f : α → PyData} (F : Prs f) {p : PyData} {y : α} (h : p.shown = (f y).shown) : p = f y :=
  (F p y [41] [41] (.inr rfl) (.inr rfl) (by unfold sh; rw [h])).1
def Bk {α : Type} (n : Nat) (f : α → PyData) (g : α → U) : Prop := ∀ u y, uP n u = some (f y) → u = g y
theorem bk_int (n : Nat) : Bk n PyData.int U.int := fun u y h => by
  cases n with
  | zero => simp [uP] at h
  | succ n =>
    cases u with
    | int i => simp only [uP, Option.some.injEq, PyData.int.injEq] at h; rw [h]
    | tup us => simp only [uP, Option.map_eq_some_iff] at h; obtain ⟨_, _, h⟩ := h; cases h
    | lst us => simp only [uP, Option.map_eq_some_iff] at h; obtain ⟨_, _, h⟩ := h; cases h
    | dK ks us => simp only [uP, Option.map_eq_some_iff] at h; obtain ⟨_, _, h⟩ := h; cases h
    | _ => simp [uP] at h
theorem optAll_bk {α : Type} {n : Nat} {f : α → PyData} {g : α → U} (B : Bk n f g) : ∀ (us : List U) (l : List α), optAll (uP n) us = some (l.map f) → us = l.map g
  | [], [], _ => rfl
  | [], y :: l, h => by simp [optAll] at h
  | u :: us, l, h => by
    unfold optAll at h
    cases e1 : uP n u with
    | none => rw [e1] at h; simp at h
    | some p =>
      cases e2 : optAll (uP n) us with
      | none => rw [e1, e2] at h; simp at h
      | some ps =>
        rw [e1, e2] at h
        simp only [Option.some.injEq] at h
        cases l with
        | nil => simp at h
        | cons y l =>
          simp only [List.map_cons, List.cons.injEq] at h
          rw [h.1] at e1
          rw [h.2] at e2
          rw [B u y e1, optAll_bk B us l e2, List.map_cons]
theorem bk_tup {α : Type} {n : Nat} {f : α → PyData} {g : α → U} (B : Bk n f g) : Bk (n + 1) (fun l : List α => .tuple (l.map f)) (fun l => .tup (l.map g)) := fun u y h => by
  cases u with
  | int i => simp [uP] at h
  | tup us =>
    simp only [uP, Option.map_eq_some_iff] at h
    obtain ⟨ps, h1, h2⟩ := h
    cases h2
    rw [optAll_bk B us y h1]
  | lst us => simp only [uP, Option.map_eq_some_iff] at h; obtain ⟨_, _, h⟩ := h; cases h
  | dK ks us => simp only [uP, Option.map_eq_some_iff] at h; obtain ⟨_, _, h⟩ := h; cases h
  | _ => simp [uP] at h
theorem optAll_fwd {α : Type} {n : Nat} {f : α → PyData} {g : α → U} (B : ∀ y, uP n (g y) = some (f y)) : ∀ l : List α, optAll (uP n) (l.map g) = some (l.map f)
  | [] => rfl
  | y :: l => by
    simp only [List.map_cons, optAll, B y, optAll_fwd B l]
end HL
set_option exponentiation.threshold 7000
namespace HL
open PySem PySem.Spec PyProof.Rows L2 HA HV PySem.StrLaws
mutual
theorem shown_w : ∀ p : PyData, tame BIG p = true → p.shown.length ≤ 10 * p.weight + 8
  | .none, _ => by
    have : (PyData.shown .none).length = 4 := rfl
    omega
  | .bool b, _ => by
    have : (PyData.shown (.bool b)).length ≤ 5 := by cases b <;> decide
    omega
  | .int i, h => by
    have h' : i.natAbs ≤ BIG := by simpa only [tame, decide_eq_true_eq] using h
    simp only [PyData.shown, PyData.weight]
    rw [PySem.ofString_length]
    have hB : BIG < 2 ^ 290 := by decide
    by_cases z : i = 0
    · subst z; decide
    · have l : i.natAbs.log2 < 290 := log2_lt (by decide) (Nat.lt_of_le_of_lt h' hB)
      have : (i == 0) = false := by simpa using z
      rw [this]
      simp only [Bool.false_eq_true, if_false]
      exact Nat.le_trans (int_text_length_le (k := i.natAbs.log2 + 1) (by omega) (by omega)) (by omega)
  | .str x, h => by
    have hx : ∀ c ∈ x.cps.toList, c < 16 ^ 8 := by simpa only [tame, List.all_eq_true, decide_eq_true_eq] using h
    have e := reprText_len x hx
    have : x.length = x.cps.size := rfl
    simp only [PyData.shown, PyData.weight]
    omega
  | .list xs, h => by
    have a := shownAll_w xs (by simpa only [tame] using h)
    have b := listText_len_le (PyData.shownAll xs)
    have c := PyData.shownAll_length xs
    simp only [PyData.shown, PyData.weight]
    omega
  | .tuple xs, h => by
    have a := shownAll_w xs (by simpa only [tame] using h)
    have b := tupleText_len_le (PyData.shownAll xs)
    have c := PyData.shownAll_length xs
    simp only [PyData.shown, PyData.weight]
    omega
  | .dict kvs, h => by
    have a := shownKv_w kvs (by simpa only [tame] using h)
    have b := dictText_len_le (PyData.shownKv kvs)
    have c := PyData.shownKv_length kvs
    simp only [PyData.shown, PyData.weight]
    omega
theorem shownAll_w : ∀ xs : List PyData, tames BIG xs = true → ((PyData.shownAll xs).map (·.length)).sum + 2 * xs.length ≤ 10 * PyData.weightAll xs
  | [], _ => by simp [PyData.shownAll, PyData.weightAll]
  | x :: xs, h => by
    have h' : tame BIG x = true ∧ tames BIG xs = true := by simpa only [tames, Bool.and_eq_true] using h
    have a := shown_w x h'.1
    have b := shownAll_w xs h'.2
    simp only [PyData.shownAll, PyData.weightAll, List.map_cons, List.sum_cons, List.length_cons]
    omega
theorem shownKv_w : ∀ kvs : List (PyData × PyData), tameKv BIG kvs = true → ((PyData.shownKv kvs).map (·.length)).sum + 2 * kvs.length ≤ 10 * PyData.weightKv kvs
  | [], _ => by simp [PyData.shownKv, PyData.weightKv]
  | (x, y) :: r, h => by
    have h' : (tame BIG x = true ∧ tame BIG y = true) ∧ tameKv BIG r = true := by simpa only [tameKv, Bool.and_eq_true] using h
    have a := shown_w x h'.1.1
    have b := shown_w y h'.1.2
    have c := shownKv_w r h'.2
    have e : (x.shown ++ ": " ++ y.shown).length = x.shown.length + 2 + y.shown.length := by
      rw [strLen_append, strLen_append]; rfl
    simp only [PyData.shownKv, PyData.weightKv, List.map_cons, List.sum_cons, List.length_cons]
    omega
end
theorem Sz.repr2 {n w : Nat} {u : U} {X : ExK} {k : U → Prop} (h : Sz n w u) (hn : n ≤ 63 := by decide) (hw : w ≤ 1000000 := by decide) : vRepr [u] X k = k (.str (shw u)) := by
  obtain ⟨p, h1, h2, h3⟩ := h.mono hn hw
  have hB : BIG < 2 ^ 290 := by decide
  have l := shown_w p h2
  have : ShowOk p := ⟨(tame_leaf hB p h2).2, by unfold line; omega, uP_depth 63 u p h1⟩
  rw [vRepr_def]
  simp only [shw, h1, this, oK_some, true_and]
end HL
namespace HL
open PySem PySem.Spec PyProof.Rows L2 HA HV
def Rw.inn : Rw → List (List Rw)
  | .st _ => []
  | .ag _ rs => [rs]
  | .iff _ a b => [a, b]
def Rw.innU (r : Rw) : List U := r.inn.map fun rs => .tup (Rw.us rs)
theorem q_inner (r : Rw) (X : ExK) (k : U → Prop) : p_inner_of [r.u] X k = k (.tup r.innU) := by
  have cut2 : ∀ xs : List U, HA.cut xs (some 2) none = xs.drop 2 := fun xs => cut_tail xs 2
  cases r with
  | st r =>
    have h1 : ¬ (r.n = "if") := by cases r <;> simp [Row.n]
    have h2 : ¬ (r.n = "again") := by cases r <;> simp [Row.n]
    simp -dsimp [p_inner_of, pb_inner_of, cal, Rw.u, Row.u, c_IF, c_AGAIN, ofS_inj, h1, h2, Rw.inn, Rw.innU]
  | ag t rs => simp -dsimp [p_inner_of, pb_inner_of, cal, Rw.u, wd, c_IF, c_AGAIN, ofS_inj, Rw.inn, Rw.innU, cut2]
  | iff x a b => simp -dsimp [p_inner_of, pb_inner_of, cal, Rw.u, wd, c_IF, c_AGAIN, ofS_inj, Rw.inn, Rw.innU, cut2]
def inB (u : U) (n : Nat) : Option Nat := match u with
  | .int i => if 0 ≤ i ∧ i < n then some i.toNat else none
  | _ => none
theorem inB_some {u : U} {n i : Nat} (h : inB u n = some i) : u = .int i ∧ i < n := by
  unfold inB at h
  split at h
  · split at h
    · rename_i j hj
      cases h
      exact ⟨by rw [Int.toNat_of_nonneg hj.1], by omega⟩
    · cases h
  · cases h
theorem inB_int {i n : Nat} (h : i < n) : inB (.int (i : Int)) n = some i := by
  unfold inB
  simp only
  rw [if_pos ⟨by omega, by omega⟩, Int.toNat_natCast]
def around : List Rw → List U → Option (List Rw)
  | _, [] => none
  | rs, [_] => some rs
  | rs, u :: v :: r => match (inB u rs.length).bind fun i => rs[i]? with
    | none => none
    | some q => match (inB v q.inn.length).bind fun w => q.inn[w]? with
      | none => none
      | some qs => around qs r
def atU (rs : List Rw) (us : List U) : Option Rw := match around rs us with
  | none => none
  | some q => match us.getLast? with
    | none => none
    | some u => (inB u q.length).bind fun i => q[i]?
mutual
def Rw.pth (i : Nat) : Rw → List (List Nat × Rw)
  | .st r => [([i], .st r)]
  | .ag t rs => ([i], .ag t rs) :: (Rw.pths 0 rs).map fun q => (i :: 0 :: q.1, q.2)
  | .iff x a b => ([i], .iff x a b) :: (((Rw.pths 0 a).map fun q => (i :: 0 :: q.1, q.2)) ++ (Rw.pths 0 b).map fun q => (i :: 1 :: q.1, q.2))
def Rw.pths (i : Nat) : List Rw → List (List Nat × Rw)
  | [] => []
  | r :: rs => r.pth i ++ Rw.pths (i + 1) rs
end
theorem inn_in {r : Rw} {rs : List Rw} (h : rs ∈ r.inn) : Rw.dps rs + 1 ≤ r.dp ∧ Rw.cnts rs < r.cnt := by
  cases r with
  | st r => cases h
  | ag t qs => simp only [Rw.inn, List.mem_singleton] at h; subst h; simp only [Rw.dp, Rw.cnt]; omega
  | iff x a b =>
    simp only [Rw.inn, List.mem_cons, List.not_mem_nil, or_false] at h
    rcases h with rfl | rfl <;> (simp only [Rw.dp, Rw.cnt]; omega)
theorem inn_len (r : Rw) : r.inn.length ≤ 2 := by cases r <;> simp [Rw.inn]
theorem pth_mem {i : Nat} {q r : Rw} {p : List Nat} : (p, r) ∈ q.pth i ↔ (p = [i] ∧ r = q) ∨ ∃ w qs p', q.inn[w]? = some qs ∧ p = i :: w :: p' ∧ (p', r) ∈ Rw.pths 0 qs := by
  cases q with
  | st s => simp [Rw.pth, Rw.inn]
  | ag t rs =>
    simp only [Rw.pth, List.mem_cons, Prod.mk.injEq, List.mem_map, Rw.inn]
    constructor
    · rintro (⟨rfl, rfl⟩ | ⟨⟨p', r'⟩, h, rfl, rfl⟩)
      · exact .inl ⟨rfl, rfl⟩
      · exact .inr ⟨0, rs, p', rfl, rfl, h⟩
    · rintro (⟨rfl, rfl⟩ | ⟨w, qs, p', e, rfl, h⟩)
      · exact .inl ⟨rfl, rfl⟩
      · cases w with
        | zero => cases e; exact .inr ⟨(p', r), h, rfl, rfl⟩
        | succ w => simp at e
  | iff x a b =>
    simp only [Rw.pth, List.mem_cons, Prod.mk.injEq, List.mem_append, List.mem_map, Rw.inn]
    constructor
    · rintro (⟨rfl, rfl⟩ | ⟨⟨p', r'⟩, h, rfl, rfl⟩ | ⟨⟨p', r'⟩, h, rfl, rfl⟩)
      · exact .inl ⟨rfl, rfl⟩
      · exact .inr ⟨0, a, p', rfl, rfl, h⟩
      · exact .inr ⟨1, b, p', rfl, rfl, h⟩
    · rintro (⟨rfl, rfl⟩ | ⟨w, qs, p', e, rfl, h⟩)
      · exact .inl ⟨rfl, rfl⟩
      · match w, e with
        | 0, e => cases e; exact .inr (.inl ⟨(p', r), h, rfl, rfl⟩)
        | 1, e => cases e; exact .inr (.inr ⟨(p', r), h, rfl, rfl⟩)
        | w + 2, e => simp at e
theorem pths_mem {r : Rw} {p : List Nat} : ∀ {rs : List Rw} {i : Nat}, (p, r) ∈ Rw.pths i rs ↔ ∃ (j : Nat) (q : Rw), rs[j]? = some q ∧ (p, r) ∈ Rw.pth (i + j) q
  | [], i => by simp [Rw.pths]
  | s :: rs, i => by
    rw [Rw.pths, List.mem_append, pths_mem (rs := rs)]
    constructor
    · rintro (h | ⟨j, q, e, h⟩)
      · exact ⟨0, s, rfl, h⟩
      · exact ⟨j + 1, q, e, by rw [show i + (j + 1) = i + 1 + j by omega]; exact h⟩
    · rintro ⟨j, q, e, h⟩
      cases j with
      | zero => cases e; exact .inl h
      | succ j => exact .inr ⟨j, q, e, by rw [show i + 1 + j = i + (j + 1) by omega]; exact h⟩
mutual
theorem pth_len (i : Nat) : ∀ r : Rw, (r.pth i).length = r.cnt
  | .st r => rfl
  | .ag t rs => by simp only [Rw.pth, List.length_cons, List.length_map, Rw.cnt, pths_len 0 rs]; omega
  | .iff x a b => by simp only [Rw.pth, List.length_cons, List.length_append, List.length_map, Rw.cnt, pths_len 0 a, pths_len 0 b]; omega
theorem pths_len (i : Nat) : ∀ rs : List Rw, (Rw.pths i rs).length = Rw.cnts rs
  | [] => rfl
  | r :: rs => by simp only [Rw.pths, List.length_append, Rw.cnts, pth_len i r, pths_len (i + 1) rs]
end
def pU (p : List Nat) : List U := p.map fun n : Nat => U.int n
theorem atU_one (rs : List Rw) (u : U) : atU rs [u] = (inB u rs.length).bind fun i => rs[i]? := rfl
theorem atU_two {rs : List Rw} {u v : U} {us : List U} (h : us ≠ []) : atU rs (u :: v :: us) = match (inB u rs.length).bind fun i => rs[i]? with
    | none => none
    | some q => match (inB v q.inn.length).bind fun w => q.inn[w]? with
      | none => none
      | some qs => atU qs us := by
  have e : (u :: v :: us).getLast? = us.getLast? := by
    cases us with
    | nil => exact absurd rfl h
    | cons a r => simp [List.getLast?_cons]
  unfold atU
  rw [around, e]
  cases h1 : ((inB u rs.length).bind fun i => rs[i]?) with
  | none => rfl
  | some q =>
    simp only
    cases h2 : ((inB v q.inn.length).bind fun w => q.inn[w]?) with
    | none => rfl
    | some qs => rfl
theorem atU_even (rs : List Rw) (u v : U) : atU rs [u, v] = none := by
  unfold atU
  rw [around]
  cases h1 : ((inB u rs.length).bind fun i => rs[i]?) with
  | none => rfl
  | some q =>
    simp only
    cases h2 : ((inB v q.inn.length).bind fun w => q.inn[w]?) with
    | none => rfl
    | some qs => rfl
theorem in_at {α : Type} {xs : List α} {j : Nat} {x : α} (h : xs[j]? = some x) : ((inB (.int (j : Int)) xs.length).bind fun i => xs[i]?) = some x := by
  have hj := (List.getElem?_eq_some_iff.mp h).1
  rw [inB_int hj]
  exact h
theorem pth_ne {rs : List Rw} {i : Nat} {p : List Nat} {r : Rw} (h : (p, r) ∈ Rw.pths i rs) : p ≠ [] := by
  obtain ⟨j, q, _, h⟩ := pths_mem.mp h
  rcases pth_mem.mp h with ⟨e, _⟩ | ⟨_, _, _, _, e, _⟩ <;> rw [e] <;> simp
theorem atU_of : ∀ (N : Nat) {rs : List Rw} {p : List Nat} {r : Rw}, Rw.cnts rs ≤ N → (p, r) ∈ Rw.pths 0 rs → atU rs (pU p) = some r
  | 0, rs, p, r, hN, h => by
    obtain ⟨j, q, e, _⟩ := pths_mem.mp h
    have := (mem_dps (List.mem_of_getElem? e)).2.1
    have := cnt_pos q
    omega
  | N + 1, rs, p, r, hN, h => by
    obtain ⟨j, q, e, h⟩ := pths_mem.mp h
    rw [Nat.zero_add] at h
    rcases pth_mem.mp h with ⟨rfl, rfl⟩ | ⟨w, qs, p', e2, rfl, h2⟩
    · exact (atU_one rs _).trans (in_at e)
    · have ne := pth_ne h2
      have l1 := (mem_dps (List.mem_of_getElem? e)).2.1
      have l2 := (inn_in (List.mem_of_getElem? e2)).2
      have e3 : pU (j :: w :: p') = .int j :: .int w :: pU p' := rfl
      rw [e3, atU_two (by unfold pU; simpa using ne), in_at e]
      simp only
      rw [in_at e2]
      exact atU_of N (by omega) h2
theorem atU_ex : ∀ (N : Nat) {rs : List Rw} {us : List U} {r : Rw}, us.length ≤ N → atU rs us = some r → ∃ p, us = pU p ∧ (p, r) ∈ Rw.pths 0 rs
  | 0, rs, us, r, hN, h => by
    have : us = [] := List.length_eq_zero_iff.mp (by omega)
    subst this
    cases h
  | N + 1, rs, us, r, hN, h => by
    match us, hN, h with
    | [], hN, h => cases h
    | [u], hN, h =>
      rw [atU_one] at h
      obtain ⟨i, h1, h2⟩ := Option.bind_eq_some_iff.mp h
      obtain ⟨rfl, _⟩ := inB_some h1
      exact ⟨[i], rfl, pths_mem.mpr ⟨i, r, h2, pth_mem.mpr (.inl ⟨by simp, rfl⟩)⟩⟩
    | [u, v], hN, h => rw [atU_even] at h; cases h
    | u :: v :: x :: us, hN, h =>
      rw [atU_two (by simp)] at h
      cases h1 : ((inB u rs.length).bind fun i => rs[i]?) with
      | none => rw [h1] at h; cases h
      | some q =>
        rw [h1] at h
        simp only at h
        cases h2 : ((inB v q.inn.length).bind fun w => q.inn[w]?) with
        | none => rw [h2] at h; cases h
        | some qs =>
          rw [h2] at h
          obtain ⟨p, e, hp⟩ := atU_ex N (by simp only [List.length_cons] at hN ⊢; omega) h
          obtain ⟨i, a1, a2⟩ := Option.bind_eq_some_iff.mp h1
          obtain ⟨w, b1, b2⟩ := Option.bind_eq_some_iff.mp h2
          obtain ⟨rfl, _⟩ := inB_some a1
          obtain ⟨rfl, _⟩ := inB_some b1
          exact ⟨i :: w :: p, by rw [e]; rfl, pths_mem.mpr ⟨i, q, a2, pth_mem.mpr (.inr ⟨w, qs, p, b2, by simp, hp⟩)⟩⟩
theorem around_even : ∀ (N : Nat) {rs : List Rw} {us : List U}, us.length ≤ N → us.length % 2 = 0 → around rs us = none
  | 0, rs, us, hN, h => by
    have : us = [] := List.length_eq_zero_iff.mp (by omega)
    subst this
    rfl
  | N + 1, rs, us, hN, h => by
    match us, hN, h with
    | [], hN, h => rfl
    | [u], hN, h => simp at h
    | u :: v :: us, hN, h =>
      simp only [List.length_cons] at hN h
      rw [around]
      cases h1 : ((inB u rs.length).bind fun i => rs[i]?) with
      | none => rfl
      | some q =>
        simp only
        cases h2 : ((inB v q.inn.length).bind fun w => q.inn[w]?) with
        | none => rfl
        | some qs => exact around_even N (by omega) (by omega)
theorem around_few : ∀ (rs : List Rw) (us : List U) {q : List Rw}, around rs us = some q → Rw.cnts q ≤ Rw.cnts rs
  | rs, [], q, h => by cases h
  | rs, [_], q, h => by cases h; exact Nat.le_refl _
  | rs, u :: v :: r, q, h => by
    rw [around] at h
    split at h
    · cases h
    · rename_i p e1
      split at h
      · cases h
      · rename_i qs e2
        have h3 := around_few qs r h
        obtain ⟨i, _, e3⟩ := Option.bind_eq_some_iff.mp e1
        obtain ⟨w, _, e4⟩ := Option.bind_eq_some_iff.mp e2
        have := (mem_dps (List.mem_of_getElem? e3)).2.1
        have := (inn_in (List.mem_of_getElem? e4)).2
        omega
section
variable (X : ExK) (k : U → Prop) {n : Nat} {u : U}
theorem p_whole (h : Dt n u) : p_is_whole [u] X k = k (.bl (isI u)) := by
  cases h <;> simp -dsimp [p_is_whole, pb_is_whole, tyIs, isI, uName, tyTable]
theorem p_within (h : Dt n u) (lo hi : Int) : p_is_within [u, .int lo, .int hi] X k = k (.bl (nB lo hi u)) := by
  simp -dsimp [p_is_within, pb_is_within, cal, p_whole _ _ h]
  cases h <;> simp -dsimp [isI, nB]
  case int i h => by_cases c : lo ≤ i <;> simp -dsimp [c]
theorem p_below (h : Dt n u) (m : Nat) : p_is_number_below [u, .int m] X k = k (.bl (inB u m).isSome) := by
  have e : nB 0 ((m : Int) - 1) u = (inB u m).isSome := by
    unfold nB inB
    cases u <;> simp
    rename_i i
    by_cases c1 : 0 ≤ i
    · by_cases c2 : i < m
      · rw [if_pos ⟨c1, c2⟩, decide_eq_true c1, decide_eq_true (by omega)]; rfl
      · rw [if_neg (fun h => c2 h.2), decide_eq_false (show ¬ i ≤ (m : Int) - 1 by omega), Bool.and_false]; rfl
    · rw [if_neg (fun h => c1 h.1), decide_eq_false c1, Bool.false_and]; rfl
  simp -dsimp [p_is_number_below, pb_is_number_below, cal, p_within _ _ h, e]
theorem rg_two (j : Nat) (h : j ≤ 2000) : rgOk 0 (2 * (j : Int)) 2 = true ∧ rgL 0 (2 * (j : Int)) 2 = (List.range j).map fun t : Nat => 2 * (t : Int) := by
  have e : Builtin.Range.rangeSize 0 (2 * (j : Int)) 2 = (j : Int) := by
    unfold Builtin.Range.rangeSize
    rw [if_pos (by decide)]
    split <;> omega
  refine ⟨?_, ?_⟩
  · unfold rgOk
    rw [e]
    have F : ∀ n : Int, 0 ≤ n → n ≤ 5000 → Builtin.Range.rangeFitsLong n = true := fun n h1 h2 => by
      unfold Builtin.Range.rangeFitsLong
      simp
      omega
    simp [Builtin.Range.small, e]
    exact ⟨⟨⟨⟨F 0 (by omega) (by omega), F _ (by omega) (by omega)⟩, F 2 (by omega) (by omega)⟩, F _ (by omega) (by omega)⟩, .inr (F _ (by omega) (by omega))⟩
  · unfold rgL rgN
    rw [e, Int.toNat_natCast]
    refine List.map_congr_left fun t _ => ?_
    omega
theorem rwU_at {rs : List Rw} {i : Nat} {q : Rw} (h : rs[i]? = some q) : (Rw.us rs)[i]? = some q.u := by rw [us_map, List.getElem?_map, h]; rfl
theorem p_around {us : List U} (h : ∀ u ∈ us, Dt n u) (hl : us.length ≤ 2000) (rs : List Rw) (hrs : Rw.cnts rs ≤ 4000) (hk : k (match around rs us with | none => .non | some q => .tup (Rw.us q))) : p_rows_around [.tup (Rw.us rs), .tup us] X k := by
  have l1 : us.length ≤ 16777216 := by omega
  have em : ((us.length : Int) % 2 = 0) = (us.length % 2 = 0) := by apply propext; omega
  simp -dsimp [p_rows_around, pb_rows_around, tyIs, tyTable, uName, l1, em]
  by_cases c : us.length % 2 = 0
  · rw [if_pos c]
    rw [around_even _ (Nat.le_refl _) c] at hk
    exact hk
  rw [if_neg c]
  obtain ⟨j, hj⟩ : ∃ j, us.length = 2 * j + 1 := ⟨us.length / 2, by omega⟩
  have ej : ((us.length : Int) - 1) = 2 * (j : Int) := by omega
  obtain ⟨g1, g2⟩ := rg_two j (by omega)
  rw [ej]
  refine ⟨g1, ?_⟩
  rw [g2]
  refine forL_goM U.int (I := fun t Γ => ∃ cur x3 x4 x5 x6, Γ = [some (.tup (Rw.us rs)), some (.tup us), some (.tup (Rw.us cur)), x3, x4, x5, x6] ∧ around rs us = around cur (us.drop (2 * t)) ∧ Rw.cnts cur ≤ 4000) ⟨rs, _, _, _, _, rfl, by simp, hrs⟩ ?_ ?_
  · rintro t y Γ nx bk hi ⟨cur, x3, x4, x5, x6, rfl, ea, hc⟩ hn
    have ht : t < j := by
      have := (List.getElem?_eq_some_iff.mp hi).1
      simpa using this
    have ey : y = ((2 * t : Nat) : Int) := by
      rw [List.getElem?_map, List.getElem?_range ht] at hi
      have : 2 * (t : Int) = y := Option.some.inj hi
      omega
    subst ey
    obtain ⟨u, v, r, ed⟩ : ∃ u v r, us.drop (2 * t) = u :: v :: r := by
      have l : 2 ≤ (us.drop (2 * t)).length := by rw [List.length_drop]; omega
      match us.drop (2 * t), l with
      | u :: v :: r, _ => exact ⟨u, v, r, rfl⟩
    have mu : u ∈ us ∧ v ∈ us := by
      have : ∀ x ∈ us.drop (2 * t), x ∈ us := fun x hx => List.mem_of_mem_drop hx
      rw [ed] at this
      exact ⟨this u (by simp), this v (by simp)⟩
    have er : us.drop (2 * (t + 1)) = r := by
      have : us.drop (2 * (t + 1)) = (us.drop (2 * t)).drop 2 := by rw [List.drop_drop]; congr 1
      rw [this, ed]
      rfl
    have lc := len_cnts cur
    have ll : cur.length ≤ 16777216 := by omega
    have cm : HA.cut us (some ((2 * t : Nat) : Int)) (some (((2 * t : Nat) : Int) + 2)) = [u, v] := by rw [cut_mid, ed]; rfl
    have B1 := fun X k => p_below X k (h u mu.1) cur.length
    refine ⟨_, rfl, ?_⟩
    generalize ((2 * t : Nat) : Int) = tt at *
    rw [ed] at ea
    rw [around] at ea
    simp -dsimp [cm, us_len, ll, cal, B1]
    cases h1 : inB u cur.length with
    | none =>
      rw [h1] at ea
      rw [ea] at hk
      simpa using hk
    | some i =>
      obtain ⟨rfl, hi⟩ := inB_some h1
      have e2 : cur[i]? = some cur[i] := List.getElem?_eq_getElem hi
      have e3 := rwU_at e2
      have i2 := mem_dps (List.mem_of_getElem? e2)
      rw [h1] at ea
      simp only [Option.bind_some, e2] at ea
      have B2 := fun X k => p_below X k (h v mu.2) cur[i].innU.length
      have Q := fun X k => q_inner cur[i] X k
      have il := inn_len cur[i]
      have il2 : cur[i].innU.length = cur[i].inn.length := by unfold Rw.innU; rw [List.length_map]
      have il3 : cur[i].innU.length ≤ 16777216 := by omega
      generalize hq : cur[i] = q at *
      simp -dsimp [e3, Q, il3, B2]
      rw [← il2] at ea
      cases h2 : inB v q.innU.length with
      | none =>
        rw [h2] at ea
        have hk2 : k .non := by rw [ea] at hk; exact hk
        simpa using hk2
      | some w =>
        obtain ⟨rfl, hw⟩ := inB_some h2
        rw [h2] at ea
        have hw2 : w < q.inn.length := by omega
        have e4 : q.inn[w]? = some q.inn[w] := List.getElem?_eq_getElem hw2
        have e5 : q.innU[w]? = some (.tup (Rw.us q.inn[w])) := by unfold Rw.innU; rw [List.getElem?_map, e4]; rfl
        have i3 := inn_in (List.mem_of_getElem? e4)
        simp only [Option.bind_some, e4] at ea
        simp -dsimp [e5]
        refine hn _ ⟨q.inn[w], _, _, _, _, rfl, ?_, by omega⟩
        rw [er]
        exact ea
  · rintro Γ ⟨cur, x3, x4, x5, x6, rfl, ea, hc⟩
    obtain ⟨u, ed⟩ : ∃ u, us.drop (2 * j) = [u] := by
      have l : (us.drop (2 * j)).length = 1 := by rw [List.length_drop]; omega
      exact List.length_eq_one_iff.mp l
    simp only [List.length_map, List.length_range] at ea
    rw [ed] at ea
    have : around cur [u] = some cur := rfl
    rw [ea, this] at hk
    simp -dsimp
    exact hk
def atT (rs : List Rw) (u : U) : Option Rw := match u with
  | .tup us => atU rs us
  | _ => none
def rwO : Option Rw → U
  | none => .non
  | some r => r.u
theorem p_rowat {u : U} (h : Dt (n + 1) u) (hl : ∀ us, u = .tup us → us.length ≤ 2000) (rs : List Rw) (hrs : Rw.cnts rs ≤ 4000) (hk : k (rwO (atT rs u))) : p_row_at [.tup (Rw.us rs), u] X k := by
  have Pc : ∀ us X (k : U → Prop), cal p_rows_around us X k () = p_rows_around us X k := fun us X k => rfl
  simp -dsimp [p_row_at, pb_row_at]
  rw [Pc]
  cases h with
  | tup us h l =>
    have hl := hl us rfl
    refine p_around X _ h hl rs hrs ?_
    have hk' : k (rwO (atU rs us)) := hk
    unfold atU at hk'
    cases ea : around rs us with
    | none =>
      rw [ea] at hk'
      simp -dsimp
      exact hk'
    | some q =>
      rw [ea] at hk'
      have ne : us ≠ [] := fun e => by rw [e] at ea; cases ea
      have l0 : 0 < us.length := List.length_pos_iff.mpr ne
      have L1 : (-1 + (us.length : Int)).toNat = us.length - 1 := by omega
      have L2 : us[us.length - 1]? = some (us.getLast ne) := by rw [List.getLast_eq_getElem, List.getElem?_eq_getElem (by omega)]
      have L3 : (1 : Int) ≤ us.length := by omega
      have lq : q.length ≤ 16777216 := by have := around_few rs us ea; have := len_cnts q; omega
      have B := fun X k => p_below X k (h (us.getLast ne) (List.getLast_mem ne)) q.length
      rw [List.getLast?_eq_some_getLast ne] at hk'
      generalize us.getLast ne = u at *
      simp only at hk'
      simp -dsimp [L1, L2, L3, cal, us_len, lq, B]
      cases h2 : inB u q.length with
      | none =>
        rw [h2] at hk'
        have hk2 : k .non := hk'
        simpa using hk2
      | some i =>
        obtain ⟨rfl, hi⟩ := inB_some h2
        rw [h2] at hk'
        have e2 : q[i]? = some q[i] := List.getElem?_eq_getElem hi
        simp only [Option.bind_some, e2, rwO] at hk'
        simp -dsimp [L1, L2, L3, rwU_at e2]
        exact hk'
  | _ =>
    simp -dsimp [p_rows_around, pb_rows_around, tyIs, tyTable, uName]
    exact hk
end
end HL
namespace HL
open PySem PySem.Spec PyProof.Rows L2 HA HV
theorem cnt_inn (r : Rw) : r.cnt = 1 + (r.inn.map Rw.cnts).sum := by
  cases r <;> simp [Rw.cnt, Rw.inn]
theorem cnts_sum : ∀ rs : List Rw, Rw.cnts rs = rs.length + ((rs.map fun r => r.inn.map Rw.cnts).flatten).sum
  | [] => by simp [Rw.cnts]
  | r :: rs => by
    simp only [Rw.cnts, cnt_inn r, cnts_sum rs, List.length_cons, List.map_cons, List.flatten_cons, List.sum_append]
    omega
theorem q_rows : ∀ (n : Nat) (rs : List Rw) (X : ExK) (k : U → Prop), Rw.dps rs + 1 ≤ n → Rw.cnts rs ≤ 4000 → p_rows_in n [.tup (Rw.us rs)] X k = k (.int (Rw.cnts rs))
  | 0, rs, X, k, h, _ => by omega
  | n + 1, rs, X, k, h, hc => by
    have ih := q_rows n
    unfold p_rows_in
    have ll : rs.length ≤ 4096 := by have := len_cnts rs; omega
    have I := fun (r : Rw) (hr : r ∈ rs) (u0 : U) (k : List U → Prop) (d) => lcL_map1 (vt := tSet 2) (pe := vCal (vaCons (vVar 2) vaNil) (p_rows_in n)) (Γ := [some u0, some r.u, none]) (fun rs => U.tup (Rw.us rs)) (fun rs => U.int (Rw.cnts rs)) r.inn k d fun qs hq => ⟨_, rfl, fun k => by
      obtain ⟨a, b, c⟩ := mem_dps hr
      obtain ⟨d, e⟩ := inn_in hq
      have J := fun X k => ih qs X k (by omega) (by omega)
      simp -dsimp [cal, J]⟩
    simp -dsimp [pb_rows_in, cal, us_len, ll]
    rw [us_map rs, lcL_map1 (vt := tSet 1) Rw.u (fun r => .lst (r.inn.map fun rs => U.int (Rw.cnts rs))) rs _ _ fun r hr => ⟨_, rfl, fun k => by
      have l2 := inn_len r
      have l3 : r.inn.length ≤ 4096 := by omega
      simp -dsimp [cal, q_inner, Rw.innU, l3]
      rw [I r hr]⟩, flatU_map]
    have e : (rs.map fun r => r.inn.map fun rs => U.int (Rw.cnts rs)).flatten = (((rs.map fun r => r.inn.map Rw.cnts).flatten).map fun c => ((c : Nat) : Int)).map U.int := by
      simp only [List.map_flatten, List.map_map, Function.comp_def]
    rw [e]
    have sm : ∀ l : List Nat, (l.map fun c => ((c : Nat) : Int)).sum = ((l.sum : Nat) : Int) := fun l => by
      induction l with
      | nil => rfl
      | cons a l ih => simp [ih]
    simp only [vListOf_lst, vSum_ints, sm]
    have := cnts_sum rs
    rw [this]
    simp -dsimp
def tU (p : List Nat × Rw) : U := .tup [.tup (pU p.1), p.2.u]
theorem pths_snoc : ∀ (j : Nat) (a : List Rw) (q : Rw), Rw.pths j (a ++ [q]) = Rw.pths j a ++ q.pth (j + a.length)
  | j, [], q => by simp [Rw.pths]
  | j, r :: a, q => by
    rw [List.cons_append, Rw.pths, Rw.pths, pths_snoc (j + 1) a q, List.append_assoc, List.length_cons, show j + (a.length + 1) = j + 1 + a.length by omega]
theorem numU_at : ∀ (us : List U) (j i : Nat) {u : U}, (numU j us)[i]? = some u → ∃ v, us[i]? = some v ∧ u = .tup [.int ((j + i : Nat) : Int), v]
  | [], j, i, u, h => by simp [numU] at h
  | v :: us, j, 0, u, h => by
    simp [numU] at h
    exact ⟨v, rfl, h.symm⟩
  | v :: us, j, i + 1, u, h => by
    simp only [numU, List.getElem?_cons_succ] at h
    obtain ⟨w, h1, h2⟩ := numU_at us (j + 1) i h
    exact ⟨w, h1, by rw [h2, show j + 1 + i = j + (i + 1) by omega]⟩
theorem numU_len : ∀ (us : List U) (j : Nat), (numU j us).length = us.length
  | [], j => rfl
  | v :: us, j => by simp [numU, numU_len us (j + 1)]
mutual
theorem dp_cnt : ∀ r : Rw, r.dp ≤ r.cnt
  | .st r => by simp [Rw.dp]
  | .ag t rs => by have := dps_cnts rs; simp only [Rw.dp, Rw.cnt]; omega
  | .iff x a b => by have := dps_cnts a; have := dps_cnts b; simp only [Rw.dp, Rw.cnt]; omega
theorem dps_cnts : ∀ rs : List Rw, Rw.dps rs ≤ Rw.cnts rs
  | [] => by simp [Rw.dps]
  | r :: rs => by have := dp_cnt r; have := dps_cnts rs; simp only [Rw.dps, Rw.cnts]; omega
end
theorem pths_plen : ∀ (N : Nat) {rs : List Rw} {j : Nat} {p : List Nat} {r : Rw}, Rw.cnts rs ≤ N → (p, r) ∈ Rw.pths j rs → p.length ≤ 2 * Rw.dps rs + 1
  | 0, rs, j, p, r, hN, h => by
    obtain ⟨i, q, e, _⟩ := pths_mem.mp h
    have := (mem_dps (List.mem_of_getElem? e)).2.1
    have := cnt_pos q
    omega
  | N + 1, rs, j, p, r, hN, h => by
    obtain ⟨i, q, e, h⟩ := pths_mem.mp h
    have m := mem_dps (List.mem_of_getElem? e)
    rcases pth_mem.mp h with ⟨rfl, _⟩ | ⟨w, qs, p', e2, rfl, h2⟩
    · simp
    · have l2 := inn_in (List.mem_of_getElem? e2)
      have := pths_plen N (by omega) h2
      simp only [List.length_cons]
      omega
theorem path_lc (i w : Nat) (x0 x1 x3 x5 x6 x7 : Option U) (L : List (List Nat × Rw)) (h : ∀ p ∈ L, p.1.length ≤ 10000) (k : List U → Prop) (d) : lcL (HV.tTup 2 (HV.tCons (tSet 6) (HV.tCons (tSet 7) HV.tNil))) vYes (vTup (vaCons (v2 (vTup (vaCons (vVar 2) (vaCons (vVar 4) vaNil))) (vVar 6) vAdd) (vaCons (vVar 7) vaNil))) [x0, x1, some (.int i), x3, some (.int w), x5, x6, x7] (L.map tU) k d = k (L.map fun p => tU (i :: w :: p.1, p.2)) := by
  refine lcL_map1 tU _ L k d fun p hp => ⟨_, rfl, fun k => ?_⟩
  have l := h p hp
  have l1 : (pU p.1).length ≤ 16777213 := by unfold pU; rw [List.length_map]; omega
  have l2 : (pU p.1).length + 1 + 1 ≤ 16777216 := by omega
  have l3 : 2 + (pU p.1).length ≤ 16777216 := by omega
  simp -dsimp [l1, l2, l3]
  rfl
theorem y_paths : ∀ (n : Nat) (rs : List Rw) (X : ExK) (k : U → Prop), Rw.dps rs + 1 ≤ n → Rw.cnts rs ≤ 4000 → k (.lst ((Rw.pths 0 rs).map tU)) → p__law_paths n [.tup (Rw.us rs)] X k
  | 0, rs, X, k, h, _, _ => by omega
  | n + 1, rs, X, k, h, hc, hk => by
    have ih := y_paths n
    unfold p__law_paths
    have ll : rs.length ≤ 16777216 := by have := len_cnts rs; omega
    simp -dsimp [pb__law_paths, cal, us_len, ll, numU_len]
    refine forL_go (I := fun i Γ => ∃ x2 x3 x4 x5 x6 x7, Γ = [some (.tup (Rw.us rs)), some (.lst ((Rw.pths 0 (rs.take i)).map tU)), x2, x3, x4, x5, x6, x7]) ⟨_, _, _, _, _, _, rfl⟩ ?_ ?_
    · rintro i u Γ nx bk hu ⟨x2, x3, x4, x5, x6, x7, rfl⟩ hn
      obtain ⟨v, hv, rfl⟩ := numU_at _ _ _ hu
      rw [us_map, List.getElem?_map] at hv
      obtain ⟨q, hq, rfl⟩ := Option.map_eq_some_iff.mp hv
      obtain ⟨md, mc, _⟩ := mem_dps (List.mem_of_getElem? hq)
      have hi : i < rs.length := (List.getElem?_eq_some_iff.mp hq).1
      have snoc : Rw.pths 0 (rs.take (i + 1)) = Rw.pths 0 (rs.take i) ++ q.pth i := by
        have e : rs.take (i + 1) = rs.take i ++ [q] := by
          rw [List.take_succ_eq_append_getElem hi]
          rw [List.getElem?_eq_getElem hi] at hq
          cases hq
          rfl
        rw [e, pths_snoc, List.length_take, Nat.zero_add, Nat.min_eq_left (by omega)]
      have pl := pths_len 0 (rs.take i)
      have cs := cnts_split rs i
      have pq := pth_len i q
      have fin : ∀ x2 x3 x4 x5 x6 x7, nx [some (.tup (Rw.us rs)), some (.lst ((Rw.pths 0 (rs.take i)).map tU ++ (q.pth i).map tU)), x2, x3, x4, x5, x6, x7] := fun x2 x3 x4 x5 x6 x7 => hn _ ⟨x2, x3, x4, x5, x6, x7, by rw [snoc, List.map_append]⟩
      clear hn
      refine ⟨_, rfl, ?_⟩
      rw [Nat.zero_add]
      generalize Rw.pths 0 (rs.take i) = L at *
      have lL : (L.map tU).length ≤ 4000 := by rw [List.length_map]; omega
      generalize L.map tU = M at *
      cases q with
      | st r =>
        have h1 : ¬ (r.n = "if") := by cases r <;> simp [Row.n]
        have h2 : ¬ (r.n = "again") := by cases r <;> simp [Row.n]
        simp -dsimp [Rw.u, Row.u, ofS_inj, h1, h2, vIn_s2, numU]
        refine ⟨by omega, ?_⟩
        rw [forL_nil]
        exact fin _ _ _ _ _ _
      | ag t qs =>
        simp only [Rw.dp, Rw.cnt] at md mc
        have pq2 := pths_len 0 qs
        have pb := fun (p : List Nat × Rw) hp => pths_plen (Rw.cnts qs) (rs := qs) (j := 0) (p := p.1) (r := p.2) (Nat.le_refl _) hp
        have PL := fun x0 x1 x3 x5 x6 x7 k d => path_lc i 0 x0 x1 x3 x5 x6 x7 (Rw.pths 0 qs) (fun p hp => by have := pb p hp; have := dps_cnts qs; omega) k d
        have cut2 : ∀ xs : List U, HA.cut xs (some 2) none = xs.drop 2 := fun xs => cut_tail xs 2
        have lM : M.length < 16777216 := by omega
        simp -dsimp [Rw.u, wd, ofS_inj, vIn_s2, cut2, numU, lM, forL_cons, forL_nil, cal]
        refine ih qs _ _ (by omega) (by omega) ?_
        simp -dsimp
        refine ⟨by omega, ?_⟩
        erw [PL]
        simp -dsimp [forL_nil]
        refine ⟨by omega, ?_⟩
        have e : (Rw.pth i (.ag t qs)).map tU = U.tup [U.tup [U.int i], U.tup [U.str (Str.ofString "again"), U.int t, U.tup (Rw.us qs)]] :: (Rw.pths 0 qs).map fun p => tU (i :: 0 :: p.1, p.2) := by
          rw [Rw.pth, List.map_cons, List.map_map]
          rfl
        rw [e] at fin
        exact fin _ _ _ _ _ _
      | iff x a b =>
        simp only [Rw.dp, Rw.cnt] at md mc
        have pq2 := pths_len 0 a
        have pq3 := pths_len 0 b
        have pb := fun (p : List Nat × Rw) hp => pths_plen (Rw.cnts a) (rs := a) (j := 0) (p := p.1) (r := p.2) (Nat.le_refl _) hp
        have pb2 := fun (p : List Nat × Rw) hp => pths_plen (Rw.cnts b) (rs := b) (j := 0) (p := p.1) (r := p.2) (Nat.le_refl _) hp
        have PL := fun x0 x1 x3 x5 x6 x7 k d => path_lc i 0 x0 x1 x3 x5 x6 x7 (Rw.pths 0 a) (fun p hp => by have := pb p hp; have := dps_cnts a; omega) k d
        have PL2 := fun x0 x1 x3 x5 x6 x7 k d => path_lc i 1 x0 x1 x3 x5 x6 x7 (Rw.pths 0 b) (fun p hp => by have := pb2 p hp; have := dps_cnts b; omega) k d
        have cut2 : ∀ xs : List U, HA.cut xs (some 2) none = xs.drop 2 := fun xs => cut_tail xs 2
        have lM : M.length < 16777216 := by omega
        simp -dsimp [Rw.u, wd, ofS_inj, vIn_s2, cut2, numU, lM, forL_cons, forL_nil, cal]
        refine ih a _ _ (by omega) (by omega) ?_
        simp -dsimp
        refine ⟨by omega, ?_⟩
        erw [PL]
        simp -dsimp [forL_cons, forL_nil, cal]
        refine ⟨by omega, ?_⟩
        refine ih b _ _ (by omega) (by omega) ?_
        simp -dsimp
        refine ⟨by omega, ?_⟩
        erw [PL2]
        simp -dsimp [forL_nil]
        refine ⟨by omega, ?_⟩
        have e : (Rw.pth i (.iff x a b)).map tU = (U.tup [U.tup [U.int i], U.tup [U.str (Str.ofString "if"), x.u, U.tup (Rw.us a), U.tup (Rw.us b)]] :: (Rw.pths 0 a).map fun p => tU (i :: 0 :: p.1, p.2)) ++ (Rw.pths 0 b).map fun p => tU (i :: 1 :: p.1, p.2) := by
          rw [Rw.pth, List.map_cons, List.map_append, List.map_map, List.map_map]
          rfl
        rw [e] at fin
        simpa using fin _ _ _ _ _ _
    · rintro Γ ⟨x2, x3, x4, x5, x6, x7, rfl⟩
      rw [numU_len, us_len, List.take_length]
      simp -dsimp
      exact hk
end HL
namespace HL
open PySem PySem.Spec PyProof.Rows L2 HA HV TL
theorem Szs.all {n v : Nat} : ∀ {us : List U}, (∀ u ∈ us, Sz n v u) → Szs n (us.length * (v + 1)) us
  | [], _ => Szs.nil.mono (Nat.le_refl _) (Nat.zero_le _)
  | u :: us, h => (Szs.cons (h u List.mem_cons_self) (Szs.all fun x hx => h x (List.mem_cons_of_mem _ hx))).mono (Nat.le_refl _) (by rw [List.length_cons, Nat.add_mul]; omega)
theorem Gd.all {B n v : Nat} {us : List U} (h : ∀ u ∈ us, Gd B n v u) (l : us.length ≤ B) : Gd B (n + 1) (us.length * (v + 1)) (.tup us) := Gd.tup (fun u hu => (h u hu).d) l (Szs.all fun u hu => (h u hu).z)
theorem Gd.allL {B n v : Nat} {us : List U} (h : ∀ u ∈ us, Gd B n v u) (l : us.length ≤ B) : Gd B (n + 1) (us.length * (v + 1)) (.lst us) := Gd.lst (fun u hu => (h u hu).d) l (Szs.all fun u hu => (h u hu).z)
theorem uVal_put {κ : Type} [DecidableEq κ] : ∀ (ks : List κ) (us : List U) (kk q : κ) (v : U), ks.length = us.length → uVal ks ((ks.zip us).map fun p => if p.1 = kk then v else p.2) q = if kk = q ∧ kk ∈ ks then some v else uVal ks us q
  | [], [], kk, q, v, _ => by simp [uVal]
  | [], _ :: _, kk, q, v, h => by simp at h
  | _ :: _, [], kk, q, v, h => by simp at h
  | k1 :: ks, u :: us, kk, q, v, h => by
    have ih := uVal_put ks us kk q v (by simpa using h)
    simp only [List.zip_cons_cons, List.map_cons, uVal]
    by_cases c : k1 = q
    · subst c
      simp only [if_true]
      by_cases c2 : k1 = kk
      · subst c2; simp
      · have : ¬ kk = k1 := fun e => c2 e.symm
        simp [c2, this]
    · simp only [if_neg c, ih]
      by_cases c2 : kk = q
      · subst c2
        have n1 : ¬ kk = k1 := fun e => c e.symm
        have : kk ∈ k1 :: ks ↔ kk ∈ ks := by simp [n1]
        simp [this]
      · simp [c2]
theorem uVal_snoc {κ : Type} [DecidableEq κ] : ∀ (ks : List κ) (us : List U) (kk q : κ) (v : U), ks.length = us.length → kk ∉ ks → uVal (ks ++ [kk]) (us ++ [v]) q = if kk = q then some v else uVal ks us q
  | [], [], kk, q, v, _, _ => by simp [uVal]
  | [], _ :: _, kk, q, v, h, _ => by simp at h
  | _ :: _, [], kk, q, v, h, _ => by simp at h
  | k1 :: ks, u :: us, kk, q, v, h, hn => by
    have ih := uVal_snoc ks us kk q v (by simpa using h) (fun e => hn (List.mem_cons_of_mem _ e))
    simp only [List.cons_append, uVal, ih]
    by_cases c : k1 = q
    · subst c
      have : ¬ kk = k1 := fun e => hn (by rw [e]; exact List.mem_cons_self)
      simp [this]
    · simp [c]
theorem uPut_get {ks : List Key} {us : List U} {kk : Key} {v : U} (h : ks.length = us.length) : ∃ ks' us', uPut ks us kk v = .dK ks' us' ∧ ks'.length = us'.length ∧ ∀ q, uVal ks' us' q = if kk = q then some v else uVal ks us q := by
  unfold uPut
  by_cases c : (ks.any fun z => decide (z = kk)) = true
  · rw [if_pos c]
    have m : kk ∈ ks := by
      obtain ⟨z, hz, e⟩ := List.any_eq_true.mp c
      rw [← of_decide_eq_true e]; exact hz
    refine ⟨_, _, rfl, by simp [h], fun q => ?_⟩
    rw [uVal_put ks us kk q v h]
    simp [m]
  · rw [if_neg c]
    have m : kk ∉ ks := fun hm => c (List.any_eq_true.mpr ⟨kk, hm, by simp⟩)
    exact ⟨_, _, rfl, by simp [h], fun q => uVal_snoc ks us kk q v h m⟩
theorem uDisp_get (f : Key → Option U) : ∀ (kvs : List (Key × U)) (ks : List Key) (us : List U), ks.length = us.length → (∀ kv ∈ kvs, f kv.1 = some kv.2) → ∃ ks' us', uDisp kvs ks us = .dK ks' us' ∧ ks'.length = us'.length ∧ ∀ q, (q ∈ kvs.map (·.1) → uVal ks' us' q = f q) ∧ (q ∉ kvs.map (·.1) → uVal ks' us' q = uVal ks us q)
  | [], ks, us, h, _ => ⟨ks, us, rfl, h, fun q => ⟨fun e => by simp at e, fun _ => rfl⟩⟩
  | (kk, v) :: kvs, ks, us, h, hf => by
    obtain ⟨ks1, us1, e1, l1, g1⟩ := uPut_get (kk := kk) (v := v) h
    obtain ⟨ks2, us2, e2, l2, g2⟩ := uDisp_get f kvs ks1 us1 l1 (fun kv hkv => hf kv (List.mem_cons_of_mem _ hkv))
    refine ⟨ks2, us2, by unfold uDisp; rw [e1]; exact e2, l2, fun q => ?_⟩
    by_cases c : q ∈ kvs.map (·.1)
    · exact ⟨fun _ => (g2 q).1 c, fun e => absurd (List.mem_cons_of_mem _ c) e⟩
    · have := (g2 q).2 c
      rw [this, g1 q]
      refine ⟨fun e => ?_, fun e => ?_⟩
      · rw [List.map_cons] at e
        rcases List.mem_cons.mp e with rfl | e
        · rw [if_pos rfl]; exact (hf (_, v) List.mem_cons_self).symm
        · exact absurd e c
      · rw [if_neg (fun z => e (by rw [List.map_cons, z]; exact List.mem_cons_self))]
theorem shw_path {u : U} {l : List Int} {p : PyData} (hp : uP 63 u = some p) (h : shw u = shw (.tup (l.map U.int))) : u = .tup (l.map U.int) := by
  have e0 : uP 63 (.tup (l.map U.int)) = some (.tuple (l.map .int)) := by
    have := optAll_fwd (n := 62) (f := PyData.int) (g := U.int) (fun y => rfl) l
    show (optAll (uP 62) (l.map U.int)).map PyData.tuple = _
    rw [this]; rfl
  unfold shw at h
  rw [hp, e0] at h
  have e := prs_eq (prs_tup prs_int) h
  rw [e] at hp
  exact bk_tup (bk_int 62) u l hp
theorem pU_ints (p : List Nat) : pU p = (p.map fun n : Nat => (n : Int)).map U.int := by unfold pU; rw [List.map_map]; rfl
theorem pU_uP (p : List Nat) : ∃ d, uP 63 (.tup (pU p)) = some d := by
  have := optAll_fwd (n := 62) (f := PyData.int) (g := U.int) (fun y => rfl) (p.map fun n : Nat => (n : Int))
  exact ⟨_, by show (optAll (uP 62) (pU p)).map PyData.tuple = _; rw [pU_ints, this]; rfl⟩
theorem pU_inj {p q : List Nat} (h : pU p = pU q) : p = q := by
  revert q
  induction p with
  | nil => intro q h; cases q with
    | nil => rfl
    | cons b q => simp [pU] at h
  | cons a p ih => intro q h; cases q with
    | nil => simp [pU] at h
    | cons b q =>
      simp only [pU, List.map_cons, List.cons.injEq, U.int.injEq] at h
      rw [ih h.2, show a = b by omega]
def kTx (p : List Nat) : Str := shw (.tup (pU p))
theorem kTx_u {u : U} {d : PyData} (hu : uP 63 u = some d) {p : List Nat} (h : shw u = kTx p) : u = .tup (pU p) := by
  unfold kTx at h
  rw [pU_ints] at h ⊢
  exact shw_path hu h
theorem kTx_inj {p q : List Nat} (h : kTx p = kTx q) : p = q := by
  obtain ⟨d, hd⟩ := pU_uP p
  have := kTx_u hd (p := q) h
  exact pU_inj (U.tup.inj this)
def knL (rs : List Rw) : List (Key × U) := (Rw.pths 0 rs).map fun p => (.inr (kTx p.1), p.2.u)
def knD (rs : List Rw) : U := uDisp (knL rs) [] []
def knF (rs : List Rw) (q : Key) : Option U := ((Rw.pths 0 rs).find? fun p => decide ((.inr (kTx p.1) : Key) = q)).map (·.2.u)
theorem knF_mem {rs : List Rw} {p : List Nat} {r : Rw} (h : (p, r) ∈ Rw.pths 0 rs) : knF rs (.inr (kTx p)) = some r.u := by
  unfold knF
  cases e : (Rw.pths 0 rs).find? fun x => decide ((.inr (kTx x.1) : Key) = .inr (kTx p)) with
  | none =>
    have := List.find?_eq_none.mp e (p, r) h
    simp at this
  | some x =>
    have m := List.mem_of_find?_eq_some e
    have q := List.find?_some e
    obtain ⟨p', r'⟩ := x
    simp only [decide_eq_true_eq, Sum.inr.injEq] at q
    have := kTx_inj q
    subst this
    have e1 := atU_of _ (Nat.le_refl _) h
    have e2 := atU_of _ (Nat.le_refl _) m
    rw [e1] at e2
    cases e2
    rfl
theorem kn_get (rs : List Rw) : ∃ ks us, knD rs = .dK ks us ∧ ∀ (u : U) (d : PyData), uP 63 u = some d → (uVal ks us (.inr (shw u))).getD .non = rwO (atT rs u) := by
  obtain ⟨ks, us, e, _, g⟩ := uDisp_get (knF rs) (knL rs) [] [] rfl fun kv hkv => by
    obtain ⟨x, hx, rfl⟩ := List.mem_map.mp hkv
    exact knF_mem hx
  refine ⟨ks, us, e, fun u d hd => ?_⟩
  by_cases c : ∃ p r, (p, r) ∈ Rw.pths 0 rs ∧ shw u = kTx p
  · obtain ⟨p, r, hm, hs⟩ := c
    have hu := kTx_u hd hs
    have m : (.inr (shw u) : Key) ∈ (knL rs).map (·.1) := by
      unfold knL
      rw [List.map_map, hs]
      exact List.mem_map.mpr ⟨(p, r), hm, rfl⟩
    rw [(g _).1 m, hs, knF_mem hm, hu]
    show _ = rwO (atU rs (pU p))
    rw [atU_of _ (Nat.le_refl _) hm]
    rfl
  · have m : (.inr (shw u) : Key) ∉ (knL rs).map (·.1) := fun hm => by
      unfold knL at hm
      rw [List.map_map] at hm
      obtain ⟨⟨p, r⟩, h1, h2⟩ := List.mem_map.mp hm
      simp only [Function.comp, Sum.inr.injEq] at h2
      exact c ⟨p, r, h1, h2.symm⟩
    rw [(g _).2 m]
    have : atT rs u = none := by
      cases u with
      | tup us =>
        show atU rs us = none
        cases e2 : atU rs us with
        | none => rfl
        | some r =>
          obtain ⟨p, rfl, hp⟩ := atU_ex _ (Nat.le_refl _) e2
          exact absurd ⟨p, r, hp, rfl⟩ c
      | _ => rfl
    rw [this]
    rfl
theorem mem_sm {r : Rw} {rs : List Rw} (h : r ∈ rs) (hs : Rw.sms rs) : r.sm := by
  induction rs with
  | nil => cases h
  | cons a l ih =>
    rcases List.mem_cons.mp h with rfl | h
    · exact hs.1
    · exact ih h hs.2
theorem inn_sm {r : Rw} {rs : List Rw} (h : rs ∈ r.inn) (hw : r.wf) (hs : r.sm) : Rw.wfs rs ∧ Rw.sms rs := by
  cases r with
  | st r => cases h
  | ag t qs => simp only [Rw.inn, List.mem_singleton] at h; subst h; exact ⟨hw, hs.2⟩
  | iff x a b =>
    simp only [Rw.inn, List.mem_cons, List.not_mem_nil, or_false] at h
    rcases h with rfl | rfl
    · exact ⟨hw.2.1, hs.1⟩
    · exact ⟨hw.2.2, hs.2⟩
theorem pths_ok : ∀ (N : Nat) {rs : List Rw} {j : Nat} {p : List Nat} {r : Rw}, Rw.cnts rs ≤ N → Rw.wfs rs → Rw.sms rs → (p, r) ∈ Rw.pths j rs → r.wf ∧ r.sm ∧ r.dp ≤ Rw.dps rs ∧ r.cnt ≤ Rw.cnts rs ∧ ∀ n ∈ p, n ≤ j + Rw.cnts rs + 2
  | 0, rs, j, p, r, hN, _, _, h => by
    obtain ⟨i, q, e, _⟩ := pths_mem.mp h
    have := (mem_dps (List.mem_of_getElem? e)).2.1
    have := cnt_pos q
    omega
  | N + 1, rs, j, p, r, hN, hw, hs, h => by
    obtain ⟨i, q, e, h⟩ := pths_mem.mp h
    have m := mem_dps (List.mem_of_getElem? e)
    have il : i < rs.length := (List.getElem?_eq_some_iff.mp e).1
    have lc := len_cnts rs
    rcases pth_mem.mp h with ⟨rfl, rfl⟩ | ⟨w, qs, p', e2, rfl, h2⟩
    · exact ⟨m.2.2 hw, mem_sm (List.mem_of_getElem? e) hs, m.1, m.2.1, fun n hn => by rw [List.mem_singleton.mp hn]; omega⟩
    · have l2 := inn_in (List.mem_of_getElem? e2)
      obtain ⟨w1, w2⟩ := inn_sm (List.mem_of_getElem? e2) (m.2.2 hw) (mem_sm (List.mem_of_getElem? e) hs)
      obtain ⟨a, b, c, d, f⟩ := pths_ok N (by omega) w1 w2 h2
      have wl : w < q.inn.length := (List.getElem?_eq_some_iff.mp e2).1
      have := inn_len q
      refine ⟨a, b, by omega, by omega, fun n hn => ?_⟩
      rcases List.mem_cons.mp hn with rfl | hn
      · omega
      rcases List.mem_cons.mp hn with rfl | hn
      · omega
      have := f n hn
      omega
theorem rwO_repr {rs : List Rw} (hrs : Rw.Drawn rs) {u : U} (X : ExK) (k : U → Prop) : vRepr [rwO (atT rs u)] X k = k (.str (shw (rwO (atT rs u)))) := by
  cases e : atT rs u with
  | none => exact (Sz.non (n := 0)).repr
  | some r =>
    cases u with
    | tup us =>
      obtain ⟨p, rfl, hp⟩ := atU_ex _ (Nat.le_refl _) e
      obtain ⟨a, b, c, d, _⟩ := pths_ok _ (Nat.le_refl _) hrs.wf (tms_sms rs hrs.tm) hp
      have := hrs.dp
      have := hrs.cnt
      exact (rw_sz' r a b).repr (by omega) (by omega)
    | _ => cases e
theorem right_ok {rs : List Rw} (hrs : Rw.Drawn rs) {u : U} {w : Nat} (hu : Gd 400 19 w u) (hw : w ≤ 100000) {X : ExK} {k : U → Prop} (hk : k (.bl true)) : cal p__law_right [.tup (Rw.us rs), knD rs, u] X k () := by
  obtain ⟨ks, us, ek, g⟩ := kn_get rs
  have P : ∀ X k, k (rwO (atT rs u)) → cal p_row_at [.tup (Rw.us rs), u] X k () := fun X k h => p_rowat X k ((hu.d.dt (by decide)).up) (fun us e => by
    subst e
    have := hu.d
    cases this with
    | tup _ _ l => omega) rs (by have := hrs.cnt; omega) h
  obtain ⟨d, hd, _, _⟩ := hu.z.mono (n' := 63) (w' := w) (by omega) (Nat.le_refl _)
  have g := g u d hd
  have R := fun X k => (Sz.repr2 (X := X) (k := k) hu.z (by omega) (by omega))
  have R2 := fun X k => rwO_repr hrs (u := u) X k
  rw [ek]
  refine (?_ : p__law_right [.tup (Rw.us rs), .dK ks us, u] X k)
  simp -dsimp [p__law_right, pb__law_right]
  refine P _ _ ?_
  simp -dsimp [R, R2, uKey, g]
  exact hk
end HL
namespace HL
open PySem PySem.Spec PyProof.Rows L2 HA HV TL
theorem s_others {p : List Nat} (h0 : p ≠ []) (hl : p.length ≤ 100) (hn : ∀ n ∈ p, n ≤ 1000) {X : ExK} {k : U → Prop} (hk : ∀ ts : List U, (∀ t ∈ ts, Gd 400 19 100000 t) → ts.length ≤ 100 → k (.lst ts)) : cal p__law_others [.ref 2, .tup (pU p)] X k () := by
  refine (?_ : p__law_others [.ref 2, .tup (pU p)] X k)
  have lp : (pU p).length = p.length := by unfold pU; rw [List.length_map]
  have l0 : 0 < p.length := List.length_pos_iff.mpr h0
  have l1 : p.length ≤ 16777216 := by omega
  simp -dsimp [p__law_others, pb__law_others, p__law_draw, lp, l1, h0]
  refine ⟨by omega, fun v hv => ?_⟩
  have e0 : (pU p)[v]? = some (.int (p[v] : Nat)) := by unfold pU; rw [List.getElem?_map, List.getElem?_eq_getElem hv]; rfl
  have hm := hn _ (List.getElem_mem hv)
  generalize p[v] = n at *
  have c1 : HA.cut (pU p) none (some (v : Int)) = (pU p).take v := HA.cut_head _ _
  have c2 : HA.cut (pU p) (some ((v : Int) + 1)) none = (pU p).drop (v + 1) := HA.cut_tail _ (v + 1)
  have c3 : HA.cut (pU p) none (some ((v : Int) + 1)) = (pU p).take (v + 1) := HA.cut_head _ (v + 1)
  have c4 : HA.cut (pU p) (some (v : Int)) none = (pU p).drop v := HA.cut_tail _ _
  have lg : n.log2 < 1920 := by
    rcases Nat.eq_zero_or_pos n with rfl | hp
    · decide
    · have := Nat.log2_lt (n := n) (k := 10) (by omega)
      have : n.log2 < 10 := this.mpr (by omega)
      omega
  have pg : ∀ u ∈ pU p, Gd 400 3 700 u := fun u hu => by
    unfold pU at hu
    obtain ⟨m, hm, rfl⟩ := List.mem_map.mp hu
    have := hn m hm
    exact Gd.num (by omega) (by decide) (by decide)
  have TG : ∀ us : List U, (∀ u ∈ us, Gd 400 3 700 u) → us.length ≤ 130 → Gd 400 19 100000 (.tup us) := fun us h l => (Gd.all h (by omega)).mono (Nat.le_refl _) (by decide) (by
    have := Nat.mul_le_mul_right 701 l
    omega)
  have LG : ∀ us : List U, (∀ u ∈ us, Gd 400 3 700 u) → us.length ≤ 130 → Gd 400 19 100000 (.lst us) := fun us h l => (Gd.allL h (by omega)).mono (Nat.le_refl _) (by decide) (by
    have := Nat.mul_le_mul_right 701 l
    omega)
  have pt : ∀ j, ∀ u ∈ (pU p).take j, Gd 400 3 700 u := fun j u hu => pg u (List.mem_of_mem_take hu)
  have pd : ∀ j, ∀ u ∈ (pU p).drop j, Gd 400 3 700 u := fun j u hu => pg u (List.mem_of_mem_drop hu)
  have g0 : ∀ m : Nat, m ≤ 1 → Gd 400 3 700 (.int m) := fun m h => Gd.num (by omega) (by decide) (by decide)
  have tl : ∀ j, ((pU p).take j).length ≤ 100 := fun j => by rw [List.length_take, lp]; omega
  have dl : ∀ j, ((pU p).drop j).length ≤ 100 := fun j => by rw [List.length_drop, lp]; omega
  have j3 : ∀ (a b : List U), (∀ u ∈ a, Gd 400 3 700 u) → (∀ u ∈ b, Gd 400 3 700 u) → ∀ u ∈ a ++ b, Gd 400 3 700 u := fun a b ha hb u hu => (List.mem_append.mp hu).elim (ha u) (hb u)
  simp -dsimp [e0, c1, c2, c3, c4, lg]
  refine lcL_each (fun t => Gd 400 19 100000 t) (fun u hu => ⟨_, rfl, fun k' hk' => ?_⟩) fun ys hl2 hys => ?_
  · have ug : Gd 400 3 700 u := by
      simp only [List.mem_cons, List.not_mem_nil, or_false] at hu
      rcases hu with rfl | rfl | rfl | rfl | rfl | rfl | rfl | rfl | rfl | rfl | rfl | rfl | rfl | rfl
      all_goals first
        | exact Gd.num (by omega) (by decide) (by decide)
        | exact Gd.bl _
        | exact Gd.non
        | exact Gd.int (by decide +kernel) (by decide) (by decide)
        | exact Gd.tup1 (v := 300) (Gd.num (by omega) (by decide) (by decide)) (by decide) (by decide)
        | skip
      exact Gd.str (strOk_lit _) (Nat.le_trans (toStr_sz (i := (n : Int)) (by
        have : (1000 : Nat) < 2 ^ 290 := by decide +kernel
        omega)) (by decide)) (by decide)
    have a1 : v + 1 ≤ 16777216 := by omega
    have a2 : min v p.length + 1 ≤ 16777216 := by omega
    simp -dsimp [c1, c2, lp, a1, a2]
    refine ⟨by omega, hk' _ (TG _ (j3 _ _ (pt v) fun x hx => ?_) ?_)⟩
    · rcases List.mem_cons.mp hx with rfl | hx
      · exact ug
      · exact pd _ _ hx
    · rw [List.length_append, List.length_cons, List.length_take, List.length_drop, lp]
      omega
  · have hl3 : ys.length = 14 := hl2
    simp -dsimp [c1, c2, c3, c4]
    refine ⟨by omega, by omega, by omega, by omega, by omega, by omega, hk _ (fun t ht => ?_) (by simp; omega)⟩
    have s1 : ∀ (a : List Nat), (∀ m ∈ a, m ≤ 1) → ∀ u ∈ a.map (fun m : Nat => U.int m), Gd 400 3 700 u := fun a ha u hu => by
      obtain ⟨m, hm, rfl⟩ := List.mem_map.mp hu
      exact g0 m (ha m hm)
    rcases List.mem_append.mp ht with ht | ht
    · exact hys t ht
    simp only [List.mem_cons, List.not_mem_nil, or_false] at ht
    rcases ht with rfl | rfl | rfl | rfl | rfl | rfl
    · exact TG _ (j3 _ _ (pt _) (pd _)) (by rw [List.length_append, List.length_take, List.length_drop, lp]; omega)
    · exact TG _ (j3 _ _ (pt _) (pd _)) (by rw [List.length_append, List.length_take, List.length_drop, lp]; omega)
    · exact TG _ (j3 _ _ pg (s1 [0] (by simp))) (by simp [lp]; omega)
    · exact TG _ (j3 _ _ pg (s1 [0, 0] (by simp))) (by simp [lp]; omega)
    · exact TG _ (j3 _ _ pg (s1 [1, 0] (by simp))) (by simp [lp]; omega)
    · exact LG _ pg (by rw [lp]; omega)
end HL
set_option exponentiation.threshold 7000
namespace HL
open PySem PySem.Spec PyProof.Rows L2 HA HV TL
theorem lcL_falses {vt : VTM} {pt : VE Bool} {pe : VE U} {Γ : UEnv} {k : List U → Prop} : ∀ (us : List U), (∀ u ∈ us, ∃ bs, vt u = some bs ∧ ∀ k : Bool → Prop, k false → pt (setU Γ bs) XF k) → k [] → lcL vt pt pe Γ us k ()
  | [], _, hk => by rw [lcL_nil]; exact hk
  | u :: us, h, hk => by
    obtain ⟨bs, e, hp⟩ := h u List.mem_cons_self
    rw [lcL_cons, e, oK_some, nxt_def]
    refine hp _ ?_
    rw [if_neg (by decide)]
    exact lcL_falses us (fun v hv => h v (List.mem_cons_of_mem _ hv)) hk
theorem d1_gd {B n w : Nat} (ks : List Key) (us : List U) (h : Sz 2 10 (.dK ks us)) : Gd B (n + 2) (w + 10) (.dK ks us) := ⟨.dk _ _, h.mono (by omega) (by omega)⟩
theorem path_gd {rs : List Rw} (h : Rw.Drawn rs) {p : List Nat} {r : Rw} (hp : (p, r) ∈ Rw.pths 0 rs) : p.length ≤ 100 ∧ (∀ n ∈ p, n ≤ 1000) ∧ Gd 400 19 100000 (.tup (pU p)) := by
  have l := pths_plen _ (Nat.le_refl _) hp
  have d := h.dp
  have c := h.cnt
  have o := (pths_ok _ (Nat.le_refl _) h.wf (tms_sms rs h.tm) hp).2.2.2.2
  have b : ∀ n ∈ p, n ≤ 1000 := fun n hn => by have := o n hn; omega
  refine ⟨by omega, b, ?_⟩
  have lp : (pU p).length = p.length := by unfold pU; rw [List.length_map]
  refine (Gd.all (v := 300) (fun u hu => ?_) (by omega) : Gd 400 18 _ _).mono (Nat.le_refl _) (by decide) (by have := Nat.mul_le_mul_right 301 (show (pU p).length ≤ 100 by omega); omega)
  unfold pU at hu
  obtain ⟨m, hm, rfl⟩ := List.mem_map.mp hu
  have := b m hm
  exact Gd.num (by omega) (by decide) (by decide)
theorem law_q : qb_law (none :: some (.ref 2) :: List.replicate 10 none) TrueZ sto0 := by
  simp -dsimp [qb_law, TrueZ, p__law_draw]
  refine forZ_go (I := fun i Γ τ => ∃ (x2 x3 x4 x5 x6 x7 x8 x9 x10 x11 : Option U), Γ = [none, some (.ref 2), x2, x3, x4, x5, x6, x7, x8, x9, x10, x11]) ⟨_, _, _, _, _, _, _, _, _, _, rfl⟩ ?_ ?_
  · rintro i u Γ τ nx bk hu ⟨x2, x3, x4, x5, x6, x7, x8, x9, x10, x11, rfl⟩ hnx
    refine ⟨_, rfl, ?_⟩
    simp -dsimp
    refine z_program fun rs hrs => ?_
    have hd := hrs.dp
    have hc := hrs.cnt
    have R := fun X k => repr_rows hrs.wf (tms_sms rs hrs.tm) (by omega) (by omega) X k
    have Q := fun X k => q_rows 20 rs X k (by omega) (by omega)
    have P : ∀ X k, k (.lst ((Rw.pths 0 rs).map tU)) → cal (p__law_paths 20) [.tup (Rw.us rs)] X k () := fun X k => y_paths 20 rs X k (by omega) (by omega)
    have pl := pths_len 0 rs
    simp -dsimp [R]
    refine P _ _ ?_
    simp -dsimp
    refine ⟨by omega, ?_⟩
    erw [lcL_map1 tU (fun p => .tup [.str (kTx p.1), p.2.u]) (Rw.pths 0 rs) _ _ fun p hp => ⟨_, rfl, fun k => by
      have R2 := fun X k => (Sz.repr2 (X := X) (k := k) (path_gd hrs (p := p.1) (r := p.2) hp).2.2.z (by omega) (by omega))
      simp -dsimp [R2]
      rfl⟩]
    have oA : optAll pairU ((Rw.pths 0 rs).map fun p => .tup [.str (kTx p.1), p.2.u]) = some (knL rs) := by
      unfold knL
      generalize Rw.pths 0 rs = L
      induction L with
      | nil => rfl
      | cons a L ih => simp only [List.map_cons, optAll, ih]; rfl
    have K0 : uDisp (knL rs) [] [] = knD rs := rfl
    have RO := fun (p : List Nat × Rw) (hp : p ∈ Rw.pths 0 rs) X k hk => right_ok hrs (u := .tup (pU p.1)) (path_gd hrs (p := p.1) (r := p.2) hp).2.2 (Nat.le_refl _) (X := X) (k := k) hk
    have RG := fun (u : U) (hu : Gd 400 19 100000 u) X k hk => right_ok hrs (u := u) hu (Nat.le_refl _) (X := X) (k := k) hk
    have C1 : ∀ us X k, cal p__law_right us X k () = p__law_right us X k := fun us X k => rfl
    rw [oA]
    simp -dsimp [K0, cal, Q, pl]
    generalize knD rs = kn at *
    refine ⟨by omega, ?_⟩
    refine lcL_falses _ (fun v hv => ?_) ?_
    · obtain ⟨p, hp, rfl⟩ := List.mem_map.mp hv
      refine ⟨_, rfl, fun k hk => ?_⟩
      simp -dsimp
      refine RO p hp _ _ ?_
      simpa using hk
    simp -dsimp
    refine forZ_go (I := fun j Γ σ => ∃ (y7 y8 y9 y10 y11 : Option U), Γ = [none, some (.ref 2), some u, some (.tup (Rw.us rs)), some (.str (shw (.tup (Rw.us rs)))), some (.lst ((Rw.pths 0 rs).map tU)), some kn, y7, y8, y9, y10, y11]) ⟨_, _, _, _, _, rfl⟩ ?_ ?_
    · rintro j v Γ σ nx' bk' hv ⟨y7, y8, y9, y10, y11, rfl⟩ hn'
      refine ⟨_, rfl, ?_⟩
      simp -dsimp
      refine ⟨by omega, ?_⟩
      erw [lcL_map1 tU (fun p => .tup (pU p.1)) (Rw.pths 0 rs) _ _ fun p hp => ⟨_, rfl, fun k => by simp -dsimp [tU]⟩]
      simp -dsimp
      refine ⟨by omega, ?_⟩
      refine s_pickL (by simp) (by simp; omega) fun q hq => ?_
      have hq2 : ∃ p : List Nat, q = .tup (pU p) ∧ p ≠ [] ∧ p.length ≤ 100 ∧ ∀ n ∈ p, n ≤ 1000 := by
        rcases List.mem_append.mp hq with hq | hq
        · obtain ⟨⟨p, r⟩, hp, rfl⟩ := List.mem_map.mp hq
          have := path_gd hrs hp
          exact ⟨p, rfl, pth_ne hp, this.1, this.2.1⟩
        · rw [List.mem_singleton.mp hq]
          exact ⟨[0], rfl, by simp, by simp, by simp⟩
      obtain ⟨p, rfl, p1, p2, p3⟩ := hq2
      simp -dsimp
      refine s_others p1 p2 p3 fun ts hts lts => ?_
      simp -dsimp
      refine ⟨by omega, ?_⟩
      refine lcL_falses _ (fun t ht => ?_) ?_
      · refine ⟨_, rfl, fun k hk => ?_⟩
        simp -dsimp
        refine RG t (hts t ht) _ _ ?_
        simpa using hk
      simp -dsimp
      exact hn' _ _ ⟨_, _, _, _, _, rfl⟩
    · rintro Γ σ ⟨y7, y8, y9, y10, y11, rfl⟩
      simp -dsimp
      have hul : (Rw.us rs).length ≤ 60 := by have := len_cnts rs; rw [us_len]; omega
      have hL : ∀ v ∈ [U.non, U.bl true, U.int 0, U.str (Str.ofString ""), U.str (Str.ofString "0"), U.tup [], U.lst [], U.dK [] [],
          U.lst [U.int 0], U.tup [U.non], U.tup [U.tup [U.int 0]], U.tup [U.int 0, U.int 0],
          U.tup [U.int (Rw.us rs).length], U.tup [U.int (-1)], U.tup [U.bl true]], Gd 400 19 100000 v := fun v hv => by
        have g : ∀ {n : Nat} (i : Int), i.natAbs ≤ 100 → Gd 400 (n + 1) 300 (.int i) := fun i h => Gd.num (by omega) (by decide) (by decide)
        have up : ∀ {n w : Nat} {v : U}, Gd 400 n w v → n ≤ 19 → w ≤ 100000 → Gd 400 19 100000 v := fun h a b => h.mono (Nat.le_refl _) a b
        have t1 : ∀ {n w : Nat} {v : U}, Gd 400 n w v → n ≤ 18 → w ≤ 99999 → Gd 400 19 100000 (.tup [v]) := fun h a b => up (Gd.tup1 h (by decide) (Nat.le_refl _)) (by omega) (by omega)
        simp only [List.mem_cons, List.not_mem_nil, or_false] at hv
        rcases hv with rfl | rfl | rfl | rfl | rfl | rfl | rfl | rfl | rfl | rfl | rfl | rfl | rfl | rfl | rfl
        · exact Gd.non
        · exact Gd.bl _
        · exact up (g (n := 0) 0 (by decide)) (by decide) (by decide)
        · exact up (Gd.str (n := 0) (strOk_lit "") (by decide +kernel) (Nat.le_refl _)) (by decide) (by decide)
        · exact up (Gd.str (n := 0) (strOk_lit "0") (by decide +kernel) (Nat.le_refl _)) (by decide) (by decide)
        · exact Gd.nil
        · exact Gd.nilL
        · exact up (d1_gd (n := 0) (w := 0) _ _ ⟨_, rfl, by decide, by decide⟩) (by decide) (by decide)
        · exact up (Gd.lst1 (g (n := 0) 0 (by decide)) (by decide) (Nat.le_refl _)) (by decide) (by decide)
        · exact t1 (Gd.non (n := 0) (w := 0)) (by decide) (by decide)
        · exact t1 (Gd.tup1 (g (n := 0) 0 (by decide)) (by decide) (Nat.le_refl _)) (by decide) (by decide)
        · exact up (Gd.tup2 (g (n := 0) 0 (by decide)) (g 0 (by decide)) (by decide) (Nat.le_refl _)) (by decide) (by decide)
        · exact t1 (g (n := 0) _ (by omega)) (by decide) (by decide)
        · exact t1 (g (n := 0) (-1) (by decide)) (by decide) (by decide)
        · exact t1 (Gd.bl (n := 0) (w := 0) true) (by decide) (by decide)
      revert hL
      generalize [U.non, U.bl true, U.int 0, U.str (Str.ofString ""), U.str (Str.ofString "0"), U.tup [], U.lst [], U.dK [] [],
          U.lst [U.int 0], U.tup [U.non], U.tup [U.tup [U.int 0]], U.tup [U.int 0, U.int 0],
          U.tup [U.int (Rw.us rs).length], U.tup [U.int (-1)], U.tup [U.bl true]] = L
      intro hL
      refine forZ_go (I := fun j Γ σ => ∃ (z9 : Option U), Γ = [none, some (.ref 2), some u, some (.tup (Rw.us rs)), some (.str (shw (.tup (Rw.us rs)))), some (.lst ((Rw.pths 0 rs).map tU)), some kn, y7, some (.lst L), z9, y10, y11]) ⟨_, rfl⟩ ?_ ?_
      · rintro j v Γ σ nx' bk' hv ⟨z9, rfl⟩ hn'
        refine ⟨_, rfl, ?_⟩
        simp -dsimp
        refine RG v (hL v (List.mem_of_getElem? hv)) _ _ ?_
        simp -dsimp [R]
        exact hn' _ _ ⟨_, rfl⟩
      · rintro Γ σ ⟨z9, rfl⟩
        exact hnx _ _ ⟨_, _, _, _, _, _, _, _, _, _, rfl⟩
  · rintro Γ τ ⟨x2, x3, x4, x5, x6, x7, x8, x9, x10, x11, rfl⟩
    simp -dsimp
theorem law_true (ns : List Int) (hl : ns.length ≤ 63) : ∃ ah', m_law [.ref 0] (ah0 ns) = .ok (.bl true) ah' := law_link hl law_q
end HL
open PySem PySem.W PyProof.Rows
set_option maxRecDepth 100000 in
set_option maxHeartbeats 8000000 in
theorem PySem.Challenge.cw_heldaddresses_k09_rows_at_paths_holds : PySem.Challenge.rw_heldaddresses_k09_rows_at_paths.Holds := by
  w_on
  o_law
  k_head
  (case hw => w_witness2)
  k_fill
  refine HA.walk_G (l := PySem.Challenge.rw_heldaddresses_k09_rows_at_paths) (k := 26) (x := "_law_script") (m := HL.m_law) rfl rfl (HA.rm_caller (by decide)) (fun w h Y => PySem.W.kIn_of Y) ?F (fun ns hl => HL.law_true ns hl)
  case F =>
    intro w mg fa h KX G hmg
    refine' HL.all_mk KX G hmg ?n0 ?l0 ?cd_0 ?k0 ?n1 ?l1 ?cd_1 ?k1 ?n2 ?l2 ?cd_2 ?k2 ?n3 ?l3 ?cd_3 ?k3 ?n4 ?l4 ?cd_4 ?k4 ?n5 ?l5 ?cd_5 ?k5 ?n6 ?l6 ?cd_6 ?k6 ?n7 ?l7 ?cd_7 ?k7 ?n8 ?l8 ?cd_8 ?k8 ?n9 ?l9 ?cd_9 ?k9 ?n10 ?l10 ?cd_10 ?k10 ?n11 ?l11 ?cd_11 ?k11 ?n12 ?l12 ?cd_12 ?k12 ?n13 ?l13 ?cd_13 ?k13 ?n14 ?l14 ?cd_14 ?k14 ?n15 ?l15 ?cd_15 ?k15 ?n16 ?l16 ?cd_16 ?k16 ?n17 ?l17 ?cd_17 ?k17 ?n18 ?l18 ?cd_18 ?k18 ?n19 ?l19 ?cd_19 ?k19 ?b_bool ?b_dict ?b_enumerate ?b_int ?b_isinstance ?b_len ?b_list ?b_range ?b_repr ?b_str ?b_sum ?b_tuple ?c_IF ?c_AGAIN
    (case n0 => k_is)
    (case l0 => k_is)
    (case cd_0 => k_is)
    (case k0 => k_is)
    (case n1 => k_is)
    (case l1 => k_is)
    (case cd_1 => k_is)
    (case k1 => k_is)
    (case n2 => k_is)
    (case l2 => k_is)
    (case cd_2 => k_is)
    (case k2 => k_is)
    (case n3 => k_is)
    (case l3 => k_is)
    (case cd_3 => k_is)
    (case k3 => k_is)
    (case n4 => k_is)
    (case l4 => k_is)
    (case cd_4 => k_is)
    (case k4 => k_is)
    (case n5 => k_is)
    (case l5 => k_is)
    (case cd_5 => k_is)
    (case k5 => k_is)
    (case n6 => k_is)
    (case l6 => k_is)
    (case cd_6 => k_is)
    (case k6 => k_is)
    (case n7 => k_is)
    (case l7 => k_is)
    (case cd_7 => k_is)
    (case k7 => k_is)
    (case n8 => k_is)
    (case l8 => k_is)
    (case cd_8 => k_is)
    (case k8 => k_is)
    (case n9 => k_is)
    (case l9 => k_is)
    (case cd_9 => k_is)
    (case k9 => k_is)
    (case n10 => k_is)
    (case l10 => k_is)
    (case cd_10 => k_is)
    (case k10 => k_is)
    (case n11 => k_is)
    (case l11 => k_is)
    (case cd_11 => k_is)
    (case k11 => k_is)
    (case n12 => k_is)
    (case l12 => k_is)
    (case cd_12 => k_is)
    (case k12 => k_is)
    (case n13 => k_is)
    (case l13 => k_is)
    (case cd_13 => k_is)
    (case k13 => k_is)
    (case n14 => k_is)
    (case l14 => k_is)
    (case cd_14 => k_is)
    (case k14 => k_is)
    (case n15 => k_is)
    (case l15 => k_is)
    (case cd_15 => k_is)
    (case k15 => k_is)
    (case n16 => k_is)
    (case l16 => k_is)
    (case cd_16 => k_is)
    (case k16 => k_is)
    (case n17 => k_is)
    (case l17 => k_is)
    (case cd_17 => k_is)
    (case k17 => k_is)
    (case n18 => k_is)
    (case l18 => k_is)
    (case cd_18 => k_is)
    (case k18 => k_is)
    (case n19 => k_is)
    (case l19 => k_is)
    (case cd_19 => k_is)
    (case k19 => k_is)
    (case b_bool => k_is)
    (case b_dict => k_is)
    (case b_enumerate => k_is)
    (case b_int => k_is)
    (case b_isinstance => k_is)
    (case b_len => k_is)
    (case b_list => k_is)
    (case b_range => k_is)
    (case b_repr => k_is)
    (case b_str => k_is)
    (case b_sum => k_is)
    (case b_tuple => k_is)
    (case c_IF => k_is)
    (case c_AGAIN => k_is)
