import PyProof.Rows.All
import Wide.All
import OpenK.AllK
import Wide.FinOn
import PyProof.EqAt
import PyProof.EqKinds
import PyProof.TupleCall
import HandS.ForMost
import HandS.ForSpec
import HandS.Flow
import HandS.Style
import HandS.Conv
import HandS.IsInst
import HandS.TupAny
import HandS.TupMul
import HandS.Zip
import HandS.Small
import HandS.Rev
import HandS.SortOrd
import HandS.Wide
import HandS.RaiseMore
import PyProof.Rows.IntBool
import PyProof.Rows.RuleB_bool
import PyProof.NeKinds
import HandS.Text
import HandS.ExcCtx
import HandS.ExcInit
import HandS.HotCalls
import HandS.SuiteRaise
import HandS.WordsExc
import HandS.More
import KE.KRevSl
import PyProof.ReprLen
import PyProof.WalksMore
import HandS.SortKw
import KE.DataMinMax
import KE.GoesMore
import KE.GoesEnumKw
import HandS.SortRule
import HandS.SortInts
import HandS.ExcField
import HandS.ExcIs
import HandS.MakeKwOnly
import HandS.Replace
import HandS.NoneIn
import PyProof.CollectIter
import HandS.FStr
import HandS.Iter
import HandS.Finally
import HandS.Defaults
import OpenK.KOps
import KE.KUnpack
import HandS.ExcInitHot
import PyProof.Rows.FloatCmp
import PyProof.Rows.FactsN_isinstance2
import PyProof.ListStr
import PyProof.InstNe
import KE.KIsAll
import PyProof.Rows.SortStr
import PyProof.Rows.StrMeet
import HandS.DictComp
import PyProof.ExcBaseAll.IndexError
import PyProof.ExcAttrAll.IndexError
import KE.KExcInit
import KE.KDictZip
import KE.KCallOwn
import PySem.Challenge.RW_heldaddresses_k03_rules_that_let_no_more
import KE.KStateDown
import HandS.Head0
import HandS.Head1
import HandS.Head2
import HandS.HeadEnd
import HandS.HeadHook1
import HandS.HeadHook2
set_option Elab.async false
set_option linter.all false
set_option maxRecDepth 100000
set_option maxHeartbeats 4000000
namespace HA
open PySem PySem.Spec PyProof.Rows L2
inductive D where
  | non | bl (b : Bool) | int (i : Int) | str (x : Str) | tup (ds : List D) | ref (n : Nat) | cst (v : V) | glo (x : Str)
  /-- a caught exception at a, its dict at d, its fields -/
  | xv (a d : Addr) (ks : List Str) (ds : List D)
deriving Inhabited
inductive AObj where
  | lst (ds : List D)
  /-- a list that is only read (the script) -/
  | ro (ds : List D)
  | dK (kvs : List (Key × D))
  | dT (kvs : List (List Key × D))
  | ins (C : Str) (fs : List (Str × D))
deriving Inhabited
abbrev AH := List AObj
def gA (K : PySem.W.Frag) (x : Str) : Addr := match PySem.W.nsIn K mainGlobals x with
  | some (some (.ref a)) => a
  | _ => 0
theorem gA_of {K : PySem.W.Frag} {x : Str} {a : Addr} (h : PySem.W.nsIn K mainGlobals x = some (some (.ref a))) : gA K x = a := by unfold gA; rw [h]
section
variable (K : PySem.W.Frag) (μ : List Addr) (H : Hp)
mutual
def Rep : D → V → Prop
  | .non, v => v = .non
  | .bl b, v => v = .bl b
  | .int i, v => v = .int i
  | .str x, v => v = .str x
  | .ref n, v => ∃ a, μ[n]? = some a ∧ v = .ref a
  | .cst w, v => v = w
  | .glo x, v => v = .ref (gA K x)
  | .xv a d ks ds, v => v = .ref a ∧ ∃ vs, (ks = [] ∨ H d = some (.xd (ks.zip vs))) ∧ Reps ds vs
  | .tup ds, v => ∃ a vs, v = .ref a ∧ SqT K H a vs ∧ Reps ds vs
def Reps : List D → List V → Prop
  | [], vs => vs = []
  | d :: ds, vs => ∃ w ws, vs = w :: ws ∧ Rep d w ∧ Reps ds ws
end
def OOk (a : Addr) : AObj → Prop
  | .lst ds => ∃ vs, H a = some (.lst vs) ∧ Reps K μ H ds vs
  | .ro ds => ∃ vs, ((∃ o, H a = some (.frz o (.lst vs))) ∨ ∃ (o : Obj) (its : Array Value) (n : Nat), K.lookup a = some o ∧ o.cls = .type "list" ∧ o.dict = none ∧ o.data = .seq its n ∧ its.size ≤ sizeLine ∧ Vals vs its.toList) ∧ Reps K μ H ds vs
  | .dK kvs => ∃ kws : List (Key × V), H a = some (.dK kws) ∧ kvs.map (·.1) = kws.map (·.1) ∧ Reps K μ H (kvs.map (·.2)) (kws.map (·.2))
  | .dT kvs => ∃ kws : List (List Key × V), H a = some (.dT kws) ∧ kvs.map (·.1) = kws.map (·.1) ∧ Reps K μ H (kvs.map (·.2)) (kws.map (·.2))
  | .ins C fs => ∃ dx, ∃ fws : List (Str × V), H a = some (.ins (gA K C) dx fws) ∧ fs.map (·.1) = fws.map (·.1) ∧ Reps K μ H (fs.map (·.2)) (fws.map (·.2))
def AObj.isRo : AObj → Bool
  | .ro _ => true
  | _ => false
structure Sim (ah : AH) : Prop where
  len : μ.length = ah.length
  nd : ∀ (n m : Nat) (a : Addr) (o o' : AObj), μ[n]? = some a → μ[m]? = some a → ah[n]? = some o → ah[m]? = some o' → o.isRo = false → o'.isRo = false → n = m
  ok : ∀ (n : Nat) (a : Addr) (o : AObj), μ[n]? = some a → ah[n]? = some o → OOk K μ H a o
  pos : 0 < ah.length
  ro0 : ∀ (n : Nat) (o : AObj), ah[n]? = some o → (o.isRo = true ↔ n = 0)
end
def TExt (K : PySem.W.Frag) (H H' : Hp) : Prop := (∀ a xs, SqT K H a xs → SqT K H' a xs) ∧ ∀ a fs, H a = some (.xd fs) → H' a = some (.xd fs)
def EnvRel (K : PySem.W.Frag) (μ : List Addr) (H : Hp) (env : List (Option D)) (σ : L2.St) : Prop :=
  env.length = σ.length ∧ ∀ (i : Nat) (d : D), env[i]? = some (some d) → ∃ v, σ[i]? = some (some v) ∧ Rep K μ H d v
variable {K : PySem.W.Frag} {μ μ' μ'' : List Addr} {H H' H'' : Hp}
theorem TExt.refl : TExt K H H := ⟨fun _ _ h => h, fun _ _ h => h⟩
theorem TExt.trans (a : TExt K H H') (b : TExt K H' H'') : TExt K H H'' := ⟨fun x xs h => b.1 x xs (a.1 x xs h), fun x xs h => b.2 x xs (a.2 x xs h)⟩
theorem TExt.new {p : Addr} {o : HO} (h : H p = none) : TExt K H (upd H p o) := ⟨fun a xs q => by
  rcases q with (q | ⟨u, q⟩) | q
  · exact .inl (.inl (by rw [upd_ne (ne_of_none q h)]; exact q))
  · exact .inl (.inr ⟨u, by rw [upd_ne (ne_of_none q h)]; exact q⟩)
  · exact .inr q, fun a fs q => by rw [upd_ne (ne_of_none q h)]; exact q⟩
theorem TExt.mut {p : Addr} {o : HO} (h : Mut (H p)) : TExt K H (upd H p o) := ⟨fun a xs q => by
  rcases q with (q | ⟨u, q⟩) | q
  · exact .inl (.inl (by rw [upd_ne (fun z => by subst z; rw [q] at h; exact h)]; exact q))
  · exact .inl (.inr ⟨u, by rw [upd_ne (fun z => by subst z; rw [q] at h; exact h)]; exact q⟩)
  · exact .inr q, fun a fs q => by rw [upd_ne (fun z => by subst z; rw [q] at h; exact h)]; exact q⟩
theorem pre_get (h : μ <+: μ') {n : Nat} {a : Addr} (e : μ[n]? = some a) : μ'[n]? = some a := by
  obtain ⟨r, rfl⟩ := h
  rw [List.getElem?_append_left (List.getElem?_eq_some_iff.mp e).1]; exact e
mutual
theorem Rep.mono (hμ : μ <+: μ') (hH : TExt K H H') : ∀ (d : D) (v : V), Rep K μ H d v → Rep K μ' H' d v
  | .non, _, h => by simp only [Rep] at h ⊢; exact h
  | .bl b, _, h => by simp only [Rep] at h ⊢; exact h
  | .int i, _, h => by simp only [Rep] at h ⊢; exact h
  | .str x, _, h => by simp only [Rep] at h ⊢; exact h
  | .ref n, _, h => by
    simp only [Rep] at h ⊢
    obtain ⟨a, e, q⟩ := h
    exact ⟨a, pre_get hμ e, q⟩
  | .cst w, _, h => by simp only [Rep] at h ⊢; exact h
  | .glo w, _, h => by simp only [Rep] at h ⊢; exact h
  | .xv a d ks ds, _, h => by
    simp only [Rep] at h ⊢
    obtain ⟨e, vs, q, r⟩ := h
    exact ⟨e, vs, q.imp id (hH.2 _ _), Reps.mono hμ hH ds vs r⟩
  | .tup ds, _, h => by
    simp only [Rep] at h ⊢
    obtain ⟨a, vs, e, q, r⟩ := h
    exact ⟨a, vs, e, hH.1 _ _ q, Reps.mono hμ hH ds vs r⟩
theorem Reps.mono (hμ : μ <+: μ') (hH : TExt K H H') : ∀ (ds : List D) (vs : List V), Reps K μ H ds vs → Reps K μ' H' ds vs
  | [], _, h => by simp only [Reps] at h ⊢; exact h
  | d :: ds, _, h => by
    simp only [Reps] at h ⊢
    obtain ⟨w, ws, e, q, r⟩ := h
    exact ⟨w, ws, e, Rep.mono hμ hH d w q, Reps.mono hμ hH ds ws r⟩
end
theorem EnvRel.mono {env : List (Option D)} {σ : L2.St} (hμ : μ <+: μ') (hH : TExt K H H') (h : EnvRel K μ H env σ) : EnvRel K μ' H' env σ :=
  ⟨h.1, fun i d e => let ⟨v, q, r⟩ := h.2 i d e; ⟨v, q, r.mono hμ hH⟩⟩
theorem Reps.length : ∀ {ds : List D} {vs : List V}, Reps K μ H ds vs → ds.length = vs.length
  | [], _, h => by simp only [Reps] at h; subst h; rfl
  | d :: ds, _, h => by
    simp only [Reps] at h
    obtain ⟨w, ws, rfl, _, r⟩ := h
    simp [Reps.length r]
theorem Reps.nil : Reps K μ H [] [] := by simp only [Reps]
theorem Reps.cons {d : D} {v : V} {ds : List D} {vs : List V} (h : Rep K μ H d v) (t : Reps K μ H ds vs) : Reps K μ H (d :: ds) (v :: vs) := by
  simp only [Reps]; exact ⟨v, vs, rfl, h, t⟩
theorem Reps.append : ∀ {ds es : List D} {vs ws : List V}, Reps K μ H ds vs → Reps K μ H es ws → Reps K μ H (ds ++ es) (vs ++ ws)
  | [], _, _, _, h, t => by simp only [Reps] at h; subst h; exact t
  | d :: ds, es, _, ws, h, t => by
    simp only [Reps] at h
    obtain ⟨w, ws', rfl, q, r⟩ := h
    exact Reps.cons q (Reps.append r t)
theorem Reps.get : ∀ {ds : List D} {vs : List V} {i : Nat} {d : D}, Reps K μ H ds vs → ds[i]? = some d → ∃ v, vs[i]? = some v ∧ Rep K μ H d v
  | [], _, _, _, _, e => by simp at e
  | d :: ds, _, i, x, h, e => by
    simp only [Reps] at h
    obtain ⟨w, ws, rfl, q, r⟩ := h
    cases i with
    | zero => simp at e; subst e; exact ⟨w, rfl, q⟩
    | succ i =>
      obtain ⟨v, e1, e2⟩ := Reps.get (i := i) (d := x) r (by simpa using e)
      exact ⟨v, by simpa using e1, e2⟩
theorem Reps.take : ∀ {ds : List D} {vs : List V} (n : Nat), Reps K μ H ds vs → Reps K μ H (ds.take n) (vs.take n)
  | _, _, 0, _ => by simpa using Reps.nil
  | [], _, n + 1, h => by simp only [Reps] at h; subst h; simpa using Reps.nil
  | d :: ds, _, n + 1, h => by
    simp only [Reps] at h
    obtain ⟨w, ws, rfl, q, r⟩ := h
    exact Reps.cons q (Reps.take n r)
theorem Reps.drop : ∀ {ds : List D} {vs : List V} (n : Nat), Reps K μ H ds vs → Reps K μ H (ds.drop n) (vs.drop n)
  | _, _, 0, h => h
  | [], _, n + 1, h => by simp only [Reps] at h; subst h; simpa using Reps.nil
  | d :: ds, _, n + 1, h => by
    simp only [Reps] at h
    obtain ⟨w, ws, rfl, q, r⟩ := h
    exact Reps.drop n r
theorem Reps.set : ∀ {ds : List D} {vs : List V} (n : Nat) {d : D} {v : V}, Reps K μ H ds vs → Rep K μ H d v → Reps K μ H (ds.set n d) (vs.set n v)
  | [], _, n, _, _, h, _ => by simp only [Reps] at h; subst h; simpa using Reps.nil
  | d :: ds, _, 0, _, _, h, x => by
    simp only [Reps] at h
    obtain ⟨w, ws, rfl, q, r⟩ := h
    exact Reps.cons x r
  | d :: ds, _, n + 1, _, _, h, x => by
    simp only [Reps] at h
    obtain ⟨w, ws, rfl, q, r⟩ := h
    exact Reps.cons q (Reps.set n r x)
theorem Reps.reverse : ∀ {ds : List D} {vs : List V}, Reps K μ H ds vs → Reps K μ H ds.reverse vs.reverse
  | [], _, h => by simp only [Reps] at h; subst h; simpa using Reps.nil
  | d :: ds, _, h => by
    simp only [Reps] at h
    obtain ⟨w, ws, rfl, q, r⟩ := h
    rw [List.reverse_cons, List.reverse_cons]
    exact (Reps.reverse r).append (Reps.cons q Reps.nil)
theorem Reps.eraseIdx : ∀ {ds : List D} {vs : List V} (n : Nat), Reps K μ H ds vs → Reps K μ H (ds.eraseIdx n) (vs.eraseIdx n)
  | [], _, n, h => by simp only [Reps] at h; subst h; simpa using Reps.nil
  | d :: ds, _, 0, h => by
    simp only [Reps] at h
    obtain ⟨w, ws, rfl, q, r⟩ := h
    exact r
  | d :: ds, _, n + 1, h => by
    simp only [Reps] at h
    obtain ⟨w, ws, rfl, q, r⟩ := h
    exact Reps.cons q (Reps.eraseIdx n r)
theorem Reps.dropLast {ds : List D} {vs : List V} (h : Reps K μ H ds vs) : Reps K μ H ds.dropLast vs.dropLast := by
  rw [List.dropLast_eq_take, List.dropLast_eq_take, ← h.length]
  exact h.take _
theorem Reps.ints : ∀ {ns : List Int} {vs : List V}, Reps K μ H (ns.map D.int) vs → vs = ns.map V.int
  | [], _, h => by simp only [List.map_nil, Reps] at h; subst h; rfl
  | n :: ns, _, h => by
    simp only [List.map_cons, Reps, Rep] at h
    obtain ⟨w, ws, rfl, rfl, r⟩ := h
    rw [Reps.ints r]; rfl
theorem Reps.bools : ∀ {ns : List Bool} {vs : List V}, Reps K μ H (ns.map D.bl) vs → vs = ns.map V.bl
  | [], _, h => by simp only [List.map_nil, Reps] at h; subst h; rfl
  | n :: ns, _, h => by
    simp only [List.map_cons, Reps, Rep] at h
    obtain ⟨w, ws, rfl, rfl, r⟩ := h
    rw [Reps.bools r]; rfl
theorem Reps.strs : ∀ {ns : List Str} {vs : List V}, Reps K μ H (ns.map D.str) vs → vs = ns.map V.str
  | [], _, h => by simp only [List.map_nil, Reps] at h; subst h; rfl
  | n :: ns, _, h => by
    simp only [List.map_cons, Reps, Rep] at h
    obtain ⟨w, ws, rfl, rfl, r⟩ := h
    rw [Reps.strs r]; rfl
theorem Reps.of_ints : ∀ (ns : List Int), Reps K μ H (ns.map D.int) (ns.map V.int)
  | [] => Reps.nil
  | n :: ns => Reps.cons (by simp only [Rep]) (Reps.of_ints ns)
theorem OOk.mono {a : Addr} : ∀ {o : AObj}, (hμ : μ <+: μ') → (hH : TExt K H H') → (he : o.isRo = false → H' a = H a) → (hf : ∀ ob u, H a = some (.frz ob u) → H' a = some (.frz ob u)) → OOk K μ H a o → OOk K μ' H' a o
  | .lst ds, hμ, hH, he, _, ⟨vs, e, r⟩ => ⟨vs, (he rfl).trans e, r.mono hμ hH⟩
  | .ro ds, hμ, hH, he, hf, ⟨vs, e, r⟩ => ⟨vs, e.elim (fun ⟨o, q⟩ => .inl ⟨o, hf _ _ q⟩) .inr, r.mono hμ hH⟩
  | .dK ds, hμ, hH, he, _, ⟨vs, e, k, r⟩ => ⟨vs, (he rfl).trans e, k, r.mono hμ hH⟩
  | .dT ds, hμ, hH, he, _, ⟨vs, e, k, r⟩ => ⟨vs, (he rfl).trans e, k, r.mono hμ hH⟩
  | .ins C ds, hμ, hH, he, _, ⟨dx, vs, e, k, r⟩ => ⟨dx, vs, (he rfl).trans e, k, r.mono hμ hH⟩
theorem OOk.there {a : Addr} : ∀ {o : AObj}, OOk K μ H a o → o.isRo = false → Mut (H a)
  | .lst ds, ⟨vs, e, _⟩, _ => by rw [e]; trivial
  | .ro ds, _, h => by cases h
  | .dK ds, ⟨vs, e, _⟩, _ => by rw [e]; trivial
  | .dT ds, ⟨vs, e, _⟩, _ => by rw [e]; trivial
  | .ins C ds, ⟨dx, vs, e, _⟩, _ => by rw [e]; trivial
theorem Sim.at {ah : AH} (S : Sim K μ H ah) {n : Nat} {o : AObj} (e : ah[n]? = some o) : ∃ a, μ[n]? = some a ∧ OOk K μ H a o := by
  have hn : n < μ.length := by rw [S.len]; exact (List.getElem?_eq_some_iff.mp e).1
  exact ⟨μ[n], by simp [hn], S.ok n _ o (by simp [hn]) e⟩
theorem Sim.frame {ah : AH} (S : Sim K μ H ah) (hH : TExt K H H') (he : ∀ a, Mut (H a) → H' a = H a) (hf : ∀ a ob u, H a = some (.frz ob u) → H' a = some (.frz ob u)) : Sim K μ H' ah :=
  ⟨S.len, S.nd, fun n a o e1 e2 => (S.ok n a o e1 e2).mono (List.prefix_refl _) hH (fun q => he a ((S.ok n a o e1 e2).there q)) (hf a), S.pos, S.ro0⟩
theorem Sim.mut {ah : AH} (S : Sim K μ H ah) {a : Addr} (h : a ∈ μ.tail) : Mut (H a) := by
  obtain ⟨i, e⟩ := List.mem_iff_getElem?.mp h
  rw [List.getElem?_tail] at e
  have hn : i + 1 < ah.length := by rw [← S.len]; exact (List.getElem?_eq_some_iff.mp e).1
  have e2 : ah[i + 1]? = some ah[i + 1] := List.getElem?_eq_getElem hn
  refine (S.ok _ a _ e e2).there ?_
  have := S.ro0 _ _ e2
  cases q : ah[i + 1].isRo with
  | false => rfl
  | true => exact absurd (this.mp q) (by omega)
theorem Sim.free {ah : AH} (S : Sim K μ H ah) {p : Addr} (h : H p = none) : p ∉ μ.tail := fun z => by
  have := S.mut z
  rw [h] at this; exact this
theorem Sim.other {ah : AH} (S : Sim K μ H ah) {p : Addr} {u : HO} (hp : H p = none) : Sim K μ (upd H p u) ah :=
  S.frame (TExt.new hp) (fun a h => upd_ne (fun z => by subst z; rw [hp] at h; exact h)) fun a ob v q => by rw [upd_ne (ne_of_none q hp)]; exact q
theorem Sim.new {ah : AH} (S : Sim K μ H ah) {p : Addr} {u : HO} {o : AObj} (hp : H p = none) (hr : o.isRo = false) (h : OOk K (μ ++ [p]) (upd H p u) p o) : Sim K (μ ++ [p]) (upd H p u) (ah ++ [o]) := by
  have key : ∀ (n : Nat) (a : Addr) (q : AObj), (μ ++ [p])[n]? = some a → (ah ++ [o])[n]? = some q → (μ[n]? = some a ∧ ah[n]? = some q) ∨ (n = ah.length ∧ a = p ∧ q = o) := fun n a q e1 e2 => by
    by_cases hn : n < ah.length
    · rw [List.getElem?_append_left (by rw [S.len]; exact hn)] at e1
      rw [List.getElem?_append_left hn] at e2
      exact .inl ⟨e1, e2⟩
    · have hn' : n < (ah ++ [o]).length := (List.getElem?_eq_some_iff.mp e2).1
      have : n = ah.length := by simp at hn'; omega
      subst this
      rw [List.getElem?_append_right (by rw [S.len]; omega)] at e1
      rw [List.getElem?_append_right (Nat.le_refl _)] at e2
      rw [S.len] at e1
      simp at e1 e2
      exact .inr ⟨rfl, e1.symm, e2.symm⟩
  refine ⟨by simp [S.len], fun n m a q q' e1 e2 e3 e4 r1 r2 => ?_, fun n a q e1 e2 => ?_, by simp, fun n q e => ?_⟩
  · rcases key n a q e1 e3 with ⟨x1, x2⟩ | ⟨x1, x2, x3⟩
    · rcases key m a q' e2 e4 with ⟨y1, y2⟩ | ⟨y1, y2, y3⟩
      · exact S.nd n m a q q' x1 y1 x2 y2 r1 r2
      · have := (S.ok n a q x1 x2).there r1
        rw [y2, hp] at this; exact this.elim
    · rcases key m a q' e2 e4 with ⟨y1, y2⟩ | ⟨y1, y2, y3⟩
      · have := (S.ok m a q' y1 y2).there r2
        rw [x2, hp] at this; exact this.elim
      · rw [x1, y1]
  · rcases key n a q e1 e2 with ⟨x1, x2⟩ | ⟨x1, x2, x3⟩
    · exact (S.ok n a q x1 x2).mono (List.prefix_append _ _) (TExt.new hp) (fun z => upd_ne (fun w => by
        have := (S.ok n a q x1 x2).there z
        rw [w, hp] at this; exact this)) fun ob v z => by rw [upd_ne (ne_of_none z hp)]; exact z
    · rw [x2, x3]; exact h
  · by_cases hn : n < ah.length
    · rw [List.getElem?_append_left hn] at e
      exact S.ro0 n q e
    · have hn' : n < (ah ++ [o]).length := (List.getElem?_eq_some_iff.mp e).1
      have : n = ah.length := by simp at hn'; omega
      subst this
      rw [List.getElem?_append_right (Nat.le_refl _)] at e
      simp at e
      subst e
      have := S.pos
      constructor
      · intro z; rw [hr] at z; cases z
      · intro z; omega
theorem Sim.put {ah : AH} (S : Sim K μ H ah) {n : Nat} {a : Addr} {u : HO} {o o' : AObj} (e1 : μ[n]? = some a) (e2 : ah[n]? = some o) (hr : o.isRo = false) (hr' : o'.isRo = false) (h : TExt K H (upd H a u) → OOk K μ (upd H a u) a o') : Sim K μ (upd H a u) (ah.set n o') := by
  have mu := (S.ok n a o e1 e2).there hr
  have ht : TExt K H (upd H a u) := TExt.mut mu
  have hn : n < ah.length := (List.getElem?_eq_some_iff.mp e2).1
  have old : ∀ (m : Nat) (q : AObj), (ah.set n o')[m]? = some q → m ≠ n → ah[m]? = some q := fun m q e z => by
    rw [List.getElem?_set_ne (Ne.symm z)] at e; exact e
  have self : ∀ q, (ah.set n o')[n]? = some q → q = o' := fun q e => by
    rw [List.getElem?_set_self hn] at e; exact (Option.some.inj e).symm
  refine ⟨by simp [S.len], fun m k b q q' x1 x2 x3 x4 r1 r2 => ?_, fun m b q x1 x2 => ?_, by rw [List.length_set]; exact S.pos, fun m q x => ?_⟩
  · by_cases hm : m = n
    · by_cases hk : k = n
      · rw [hm, hk]
      · subst hm
        rw [e1] at x1; cases x1
        exact S.nd m k a o q' e1 x2 e2 (old k q' x4 hk) hr r2
    · by_cases hk : k = n
      · subst hk
        rw [e1] at x2; cases x2
        exact S.nd m k a q o x1 e1 (old m q x3 hm) e2 r1 hr
      · exact S.nd m k b q q' x1 x2 (old m q x3 hm) (old k q' x4 hk) r1 r2
  · by_cases hm : m = n
    · subst hm
      rw [self q x2]
      rw [e1] at x1; cases x1
      exact h ht
    · have y := old m q x2 hm
      refine (S.ok m b q x1 y).mono (List.prefix_refl _) ht (fun z => upd_ne fun w => ?_) fun ob v z => ?_
      · subst w
        exact hm (S.nd m n b q o x1 e1 y e2 z hr)
      · rw [upd_ne fun w => by subst w; rw [z] at mu; exact mu]; exact z
  · by_cases hm : m = n
    · subst hm
      rw [self q x, ← S.ro0 _ _ e2, hr, hr']
    · exact S.ro0 m q (old m q x hm)
end HA
namespace HA
open PySem PySem.Spec PyProof.Rows L2
inductive Res (α : Type) where
  | ok (a : α) (h : AH)
  | exn (c : Str) (fs : Option (List (Str × D))) (h : AH)
  | stuck
def Res.bind {α β : Type} (r : Res α) (f : α → AH → Res β) : Res β := match r with
  | .ok a h => f a h
  | .exn c fs h => .exn c fs h
  | .stuck => .stuck
@[simp] theorem Res.bind_ok {α β : Type} (a : α) (h : AH) (f : α → AH → Res β) : (Res.ok a h).bind f = f a h := rfl
@[simp] theorem Res.bind_exn {α β : Type} (c : Str) (fs : Option (List (Str × D))) (h : AH) (f : α → AH → Res β) : (Res.exn c fs h : Res α).bind f = .exn c fs h := rfl
@[simp] theorem Res.bind_stuck {α β : Type} (f : α → AH → Res β) : (Res.stuck : Res α).bind f = .stuck := rfl
theorem Res.bind_assoc {α β γ : Type} (r : Res α) (f : α → AH → Res β) (g : β → AH → Res γ) : (r.bind f).bind g = r.bind fun a h => (f a h).bind g := by cases r <;> rfl
abbrev Env := List (Option D)
abbrev EM (α : Type) := Env → AH → Res α
structure Ext (K : PySem.W.Frag) (μ : List Addr) (H : Hp) (μ' : List Addr) (H' : Hp) : Prop where
  pre : μ <+: μ'
  tup : TExt K H H'
  new : ∀ a, a ∈ μ'.tail → a ∈ μ.tail ∨ H a = none
  keep : ∀ a o, a ∉ μ.tail → H a = some o → H' a = some o
  there : ∀ a, H' a = none → H a = none
section
variable {K : PySem.W.Frag} {μ μ1 μ2 : List Addr} {H H1 H2 : Hp}
theorem Ext.refl : Ext K μ H μ H := ⟨List.prefix_refl _, TExt.refl, fun _ h => .inl h, fun _ _ _ e => e, fun _ h => h⟩
theorem there_upd {p : Addr} {u : HO} : ∀ a, upd H p u a = none → H a = none := fun a h => by
  by_cases z : a = p
  · subst z; rw [upd_same] at h; cases h
  · rw [upd_ne z] at h; exact h
theorem Ext.trans (a : Ext K μ H μ1 H1) (b : Ext K μ1 H1 μ2 H2) : Ext K μ H μ2 H2 where
  pre := a.pre.trans b.pre
  there := fun x h => a.there x (b.there x h)
  tup := a.tup.trans b.tup
  new := fun x hx => by
    rcases b.new x hx with h | h
    · exact a.new x h
    · by_cases hm : x ∈ μ.tail
      · exact .inl hm
      · cases e : H x with
        | none => exact .inr rfl
        | some o => rw [a.keep x o hm e] at h; cases h
  keep := fun x o hm e => b.keep x o (fun z => by
    rcases a.new x z with h | h
    · exact hm h
    · rw [e] at h; cases h) (a.keep x o hm e)
theorem Ext.other {p : Addr} {u : HO} (hp : H p = none) : Ext K μ H μ (upd H p u) :=
  ⟨List.prefix_refl _, TExt.new hp, fun _ h => .inl h, fun a o _ e => by rw [upd_ne (ne_of_none e hp)]; exact e, there_upd⟩
theorem Ext.ours {p : Addr} {u : HO} (hp : H p = none) (h0 : 0 < μ.length) : Ext K μ H (μ ++ [p]) (upd H p u) :=
  ⟨List.prefix_append _ _, TExt.new hp, fun a h => by
    rw [List.tail_append_of_ne_nil (by intro z; rw [z] at h0; exact absurd h0 (by decide))] at h
    exact (List.mem_append.mp h).elim .inl fun z => .inr (by simp at z; rw [z]; exact hp), fun a o _ e => by rw [upd_ne (ne_of_none e hp)]; exact e, there_upd⟩
theorem Ext.put {p : Addr} {u : HO} {n : Nat} (e : μ[n]? = some p) (hn : n ≠ 0) (mu : Mut (H p)) : Ext K μ H μ (upd H p u) :=
  ⟨List.prefix_refl _, TExt.mut mu, fun _ h => .inl h, fun a o hm e' => by
    rw [upd_ne (fun z => hm (by
      rw [z]
      obtain ⟨k, rfl⟩ : ∃ k, n = k + 1 := ⟨n - 1, by omega⟩
      exact List.mem_of_getElem? (by rw [List.getElem?_tail]; exact e)))]
    exact e', there_upd⟩
theorem Rep.ext {d : D} {v : V} (h : Rep K μ H d v) (e : Ext K μ H μ1 H1) : Rep K μ1 H1 d v := Rep.mono e.pre e.tup d v h
theorem Reps.ext {d : List D} {v : List V} (h : Reps K μ H d v) (e : Ext K μ H μ1 H1) : Reps K μ1 H1 d v := Reps.mono e.pre e.tup d v h
theorem EnvRel.ext {env : Env} {σ : L2.St} (h : EnvRel K μ H env σ) (e : Ext K μ H μ1 H1) : EnvRel K μ1 H1 env σ := h.mono e.pre e.tup
end
def ExnOk (K : PySem.W.Frag) (μ : List Addr) (H : Hp) : Option (List (Str × D)) → Option Addr → Prop
  | none, od => od = none
  | some fs, od => ∃ d fws, od = some d ∧ H d = some (.xd fws) ∧ fs.map (·.1) = fws.map (·.1) ∧ Reps K μ H (fs.map (·.2)) (fws.map (·.2))
structure Rel (β γ : Type) where
  r : Hp → List Addr → Hp → β → γ → Prop
  back : ∀ {H₀ H₁ : Hp} {μ : List Addr} {H : Hp} {b : β} {c : γ}, (∀ a, H₁ a = none → H₀ a = none) → r H₁ μ H b c → r H₀ μ H b c
def Post {β γ : Type} (K : PySem.W.Frag) (R : Rel β γ) (W : Value → Option Addr → Hp → Prop) (μ : List Addr) (H : Hp) (Q : γ → Hp → Prop) : Res β → Prop
  | .ok d ah' => ∀ μ' x H', Ext K μ H μ' H' → Sim K μ' H' ah' → R.r H μ' H' d x → Q x H'
  | .exn c fs ah' => ∀ μ' H' od, Ext K μ H μ' H' → Sim K μ' H' ah' → ExnOk K μ' H' fs od → W (.ref (gA K c)) od H'
  | .stuck => False
section
variable {K : PySem.W.Frag} {μ μ1 : List Addr} {H H1 : Hp} {β γ β' γ' : Type} {R : Rel β γ} {R' : Rel β' γ'} {W : Value → Option Addr → Hp → Prop}
theorem Post.ext {Q : γ → Hp → Prop} {r : Res β} (e : Ext K μ H μ1 H1) (h : Post K R W μ H Q r) : Post K R W μ1 H1 Q r := by
  cases r with
  | ok d ah => exact fun μ' x H' e' s r => h μ' x H' (e.trans e') s (R.back e.there r)
  | exn c fs ah => exact fun μ' H' od e' => h μ' H' od (e.trans e')
  | stuck => exact h
theorem Post.bind {Q : γ' → Hp → Prop} {P : γ → Hp → Prop} {r : Res β} {f : β → AH → Res β'} (h : Post K R' W μ H Q (r.bind f))
    (k : ∀ d ah1 μ1 x H1, Ext K μ H μ1 H1 → Sim K μ1 H1 ah1 → R.r H μ1 H1 d x → Post K R' W μ1 H1 Q (f d ah1) → P x H1) : Post K R W μ H P r := by
  cases r with
  | ok d ah => exact fun μ' x H' e' s' r' => k d ah μ' x H' e' s' r' (Post.ext e' h)
  | exn c fs ah => exact h
  | stuck => exact h
theorem Post.bind0 {Q : γ' → Hp → Prop} {P : γ → Hp → Prop} {r : Res β} {f : β → AH → Res β'} (h : Post K R' W μ H Q (r.bind f))
    (k : ∀ d ah1 μ1 x H1, Ext K μ H μ1 H1 → Sim K μ1 H1 ah1 → R.r H μ1 H1 d x → Post K R' W μ H Q (f d ah1) → P x H1) : Post K R W μ H P r := by
  cases r with
  | ok d ah => exact fun μ' x H' e' s' r' => k d ah μ' x H' e' s' r' h
  | exn c fs ah => exact h
  | stuck => exact h
theorem Post.mono {Q Q' : γ → Hp → Prop} {r : Res β} (h : Post K R W μ H Q r) (k : ∀ x H', Q x H' → Q' x H') : Post K R W μ H Q' r := by
  cases r with
  | ok d ah => exact fun μ' x H' e' s' r' => k x H' (h μ' x H' e' s' r')
  | exn c fs ah => exact h
  | stuck => exact h
end
def RD (K : PySem.W.Frag) : Rel D V := ⟨fun _ μ H d v => Rep K μ H d v, fun _ h => h⟩
def RB : Rel Bool Bool := ⟨fun _ _ _ b c => b = c, fun _ h => h⟩
def RL (K : PySem.W.Frag) : Rel (List D) V := ⟨fun H₀ μ H ds v => ∃ a vs, v = .ref a ∧ H₀ a = none ∧ H a = some (.lst vs) ∧ a ∉ μ.tail ∧ Reps K μ H ds vs, fun h ⟨a, vs, e, z, r⟩ => ⟨a, vs, e, h a z, r⟩⟩
def RQ (K : PySem.W.Frag) : Rel (List D) V := ⟨fun _ μ H ds v => ∃ a vs, v = .ref a ∧ (SqL K H a vs ∨ SqT K H a vs) ∧ Reps K μ H ds vs, fun _ h => h⟩
def RA (K : PySem.W.Frag) : Rel (List D) (List V) := ⟨fun _ μ H ds vs => Reps K μ H ds vs, fun _ h => h⟩
def tG {β γ : Type} (K : PySem.W.Frag) (R : Rel β γ) (W : WX) (m : EM β) : L2.St → Hp → (γ → Hp → Prop) → Prop := fun σ H Q =>
  ∃ (μ : List Addr) (env : Env) (ah : AH), EnvRel K μ H env σ ∧ Sim K μ H ah ∧ Post K R (fun c d H' => W c d σ H') μ H Q (m env ah)
theorem tG_next {K : PySem.W.Frag} {β γ : Type} {R : Rel β γ} {W : WX} {σ : L2.St} {μ μ1 : List Addr} {env : Env} {H H1 : Hp} {ah1 : AH} {m : EM β} {Q : γ → Hp → Prop} (he : EnvRel K μ H env σ) (e : Ext K μ H μ1 H1) (hs : Sim K μ1 H1 ah1)
    (hp : Post K R (fun c d H' => W c d σ H') μ1 H1 Q (m env ah1)) : tG K R W m σ H1 Q := ⟨μ1, env, ah1, he.ext e, hs, hp⟩
theorem PE.weak {X : Cx} {e : Expr} {t t' : TE} (h : PE X e t) (k : ∀ σ H Q, t' σ H Q → t σ H Q) : PE X e t' := ⟨fun pins s σ H Q I q => h.run pins s σ H Q I (k σ H Q q)⟩
theorem PT.weak {X : Cx} {e : Expr} {t t' : TT} (h : PT X e t) (k : ∀ σ H Q, t' σ H Q → t σ H Q) : PT X e t' := ⟨fun pins s σ H Q I q => h.run pins s σ H Q I (k σ H Q q)⟩
theorem PW.weak {X : Cx} {e : Expr} {t t' : TT} (h : PW X e t) (k : ∀ σ H Q, t' σ H Q → t σ H Q) : PW X e t' := ⟨fun wh pins s σ H Q I q => h.run wh pins s σ H Q I (k σ H Q q)⟩
theorem PA.weak {X : Cx} {e : List Expr} {t t' : TA} (h : PA X e t) (k : ∀ σ H Q, t' σ H Q → t σ H Q) : PA X e t' := ⟨fun p pins s σ H Q I q => h.run p pins s σ H Q I (k σ H Q q)⟩
def PD (X : Cx) (W : WX) (e : Expr) (m : EM D) : Prop := PE X e (tG X.K (RD X.K) W m)
def PL (X : Cx) (W : WX) (e : Expr) (m : EM (List D)) : Prop := PE X e (tG X.K (RL X.K) W m)
def PQ (X : Cx) (W : WX) (e : Expr) (m : EM (List D)) : Prop := PE X e (tG X.K (RQ X.K) W m)
def PB (X : Cx) (W : WX) (e : Expr) (m : EM Bool) : Prop := PT X e (tG X.K RB W m)
def PBw (X : Cx) (W : WX) (e : Expr) (m : EM Bool) : Prop := PW X e (tG X.K RB W m)
def PAs (X : Cx) (W : WX) (es : List Expr) (m : EM (List D)) : Prop := PA X es (tG X.K (RA X.K) W m)
def eVar (i : Nat) : EM D := fun env ah => match env[i]? with
  | some (some d) => .ok d ah
  | _ => .stuck
def eC (d : D) : EM D := fun _ ah => .ok d ah
section
variable {X : Cx} {W : WX}
theorem post_var {K : PySem.W.Frag} {β γ : Type} {R : Rel β γ} {W : Value → Option Addr → Hp → Prop} {μ : List Addr} {H : Hp} {d : β} {x : γ} {ah : AH} {Q : γ → Hp → Prop} (h : Post K R W μ H Q (.ok d ah)) (S : Sim K μ H ah) (r : R.r H μ H d x) : Q x H := h μ x H Ext.refl S r
theorem pd_var (i : Nat) {x : Str} {pos : Pos} (hN : X.N[i]? = some x := by rfl) (hv : Vis X.env.scope x := by first | exact Or.inl rfl | exact Or.inr (Or.inl rfl) | exact Or.inr (Or.inr rfl)) (hd : (x == ("__debug__" : Str)) = false := by decide)
    (hcd : (x == ("__classdict__" : Str)) = false := by decide) : PD X W (.Name x pos) (eVar i) := by
  refine PE.weak (pe_var (i := i) hN hv hd hcd) fun σ H Q ⟨μ, env, ah, he, hs, hp⟩ => ?_
  unfold eVar at hp
  split at hp
  · rename_i d e
    obtain ⟨v, e', r⟩ := he.2 i d e
    exact ⟨v, e', post_var hp hs r⟩
  · exact hp.elim
theorem pd_c {e : Expr} {v : V} {d : D} (h : PE X e (tC v)) (hr : ∀ μ H, Rep X.K μ H d v) : PD X W e (eC d) :=
  PE.weak h fun σ H Q ⟨μ, env, ah, he, hs, hp⟩ => post_var (x := v) hp hs (hr μ H)
theorem pd_int {i : Int} {j pos} : PD X W (.Constant (.int i) j pos) (eC (.int i)) := pd_c pe_int fun _ _ => by simp only [Rep]
theorem pd_bl {b : Bool} {j pos} : PD X W (.Constant (.bool b) j pos) (eC (.bl b)) := pd_c pe_bl fun _ _ => by simp only [Rep]
theorem pd_str {x j pos} : PD X W (.Constant (.str x) j pos) (eC (.str x)) := pd_c pe_str fun _ _ => by simp only [Rep]
theorem pd_glob {x : Str} {v : V} {u : Value} {d : D} {pos : Pos} (hg : Gl X x) (hm : X.mg x = some u) (r : RelV v u) (hr : ∀ μ H, Rep X.K μ H d v) (hd : (x == ("__debug__" : Str)) = false := by decide) : PD X W (.Name x pos) (eC d) :=
  pd_c (pe_glob hg hm r hd) hr
def e2 {α β γ : Type} (ma : EM α) (mb : EM β) (f : α → β → AH → Res γ) : EM γ := fun env ah => (ma env ah).bind fun x ah1 => (mb env ah1).bind fun y ah2 => f x y ah2
def e1 {α γ : Type} (ma : EM α) (f : α → AH → Res γ) : EM γ := fun env ah => (ma env ah).bind fun x ah1 => f x ah1
def rO {γ : Type} {R : Rel γ V} (K : PySem.W.Frag) (W : Value → Option Addr → Hp → Prop) (f : D → D → AH → Res γ) : R2 := fun x y H Q => ∃ μ ah dx dy, Sim K μ H ah ∧ Rep K μ H dx x ∧ Rep K μ H dy y ∧ Post K R W μ H Q (f dx dy ah)
def OpD {γ : Type} (X : Cx) (R : Rel γ V) (F : Value → Value → Sem Value) (f : D → D → AH → Res γ) : Prop := ∀ W, OpR X F (rO (R := R) X.K W f)
theorem op2 {γ : Type} {R : Rel γ V} {K : PySem.W.Frag} {ma mb : EM D} {f : D → D → AH → Res γ} {σ : L2.St} {H : Hp} {Q : VK} (h : tG K R W (e2 ma mb f) σ H Q) :
    tOp (rO (R := R) K (fun c d H' => W c d σ H') f) (tG K (RD K) W ma) (tG K (RD K) W mb) σ H Q := by
  obtain ⟨μ, env, ah, he, hs, hp⟩ := h
  refine ⟨μ, env, ah, he, hs, hp.bind fun dx ah1 μ1 x H1 e1 s1 r1 p1 => ?_⟩
  refine tG_next he e1 s1 (p1.bind fun dy ah2 μ2 y H2 e2 s2 r2 p2 => ?_)
  exact ⟨μ2, ah2, dx, dy, s2, Rep.ext r1 e2, r2, p2⟩
theorem pe_opσ {op : Operator} {r : L2.St → R2} {a b : Expr} {ta tb : TE} {pos : Pos} (ho : ∀ σ, OpR X (binaryOp op) (r σ)) (ha : PE X a ta) (hb : PE X b tb) : PE X (.BinOp a op b pos) (fun σ H Q => tOp (r σ) ta tb σ H Q) :=
  ⟨fun pins s σ H Q I h => (pe_op (ho σ) ha hb).run pins s σ H Q I h⟩
theorem pd_op {op : Operator} {a b : Expr} {ma mb : EM D} {f : D → D → AH → Res D} {pos : Pos} (ho : OpD X (RD X.K) (binaryOp op) f) (ha : PD X W a ma) (hb : PD X W b mb) : PD X W (.BinOp a op b pos) (e2 ma mb f) :=
  PE.weak (pe_opσ (r := fun σ => rO (R := RD X.K) X.K (fun c d H' => W c d σ H') f) (fun σ => ho _) ha hb) fun _ _ _ h => op2 h
theorem pe_cmpσ {op : CmpOp} {r : L2.St → R2} {a b : Expr} {ta tb : TE} {pos : Pos} (ho : ∀ σ, OpR X (compareOp op) (r σ)) (ha : PE X a ta) (hb : PE X b tb) (hm : behindInMarks op b = false) : PE X (.Compare a [op] [b] pos) (fun σ H Q => tOp (r σ) ta tb σ H Q) :=
  ⟨fun pins s σ H Q I h => (pe_cmpR (ho σ) ha hb hm).run pins s σ H Q I h⟩
theorem pt_cmpσ {op : CmpOp} {r : L2.St → R2} {a b : Expr} {ta tb : TE} {pos : Pos} (ho : ∀ σ, OpR X (compareOp op) (r σ)) (ha : PE X a ta) (hb : PE X b tb) (hm : behindInMarks op b = false) : PT X (.Compare a [op] [b] pos) (fun σ H Q => tTest (tOp (r σ) ta tb) σ H Q) :=
  ⟨fun pins s σ H Q I h => (pt_cmpR (ho σ) ha hb hm).run pins s σ H Q I h⟩
def RBV : Rel Bool V := ⟨fun _ _ _ b v => v = .bl b, fun _ h => h⟩
theorem Post.bv {K : PySem.W.Frag} {Wx : Value → Option Addr → Hp → Prop} {μ : List Addr} {H : Hp} {Q : VK} {r : Res Bool} (h : Post K (RD K) Wx μ H Q (r.bind fun b ah => .ok (.bl b) ah)) : Post K RBV Wx μ H Q r := by
  cases r with
  | ok b ah => exact fun μ' x H' e s r => h μ' x H' e s (by have : x = .bl b := r; subst this; simp only [RD, Rep])
  | exn c fs ah => exact h
  | stuck => exact h
theorem Post.bb {K : PySem.W.Frag} {Wx : Value → Option Addr → Hp → Prop} {μ : List Addr} {H : Hp} {Q : Bool → Hp → Prop} {r : Res Bool} (h : Post K RB Wx μ H Q r) : Post K RBV Wx μ H (fun x H' => ∃ k, x = .bl k ∧ Q k H') r := by
  cases r with
  | ok b ah => exact fun μ' x H' e s r => ⟨b, r, h μ' b H' e s rfl⟩
  | exn c fs ah => exact h
  | stuck => exact h
def eB (m : EM Bool) : EM D := fun env ah => (m env ah).bind fun b ah => .ok (.bl b) ah
theorem op2b {K : PySem.W.Frag} {ma mb : EM D} {f : D → D → AH → Res Bool} {σ : L2.St} {H : Hp} {Q : VK} (h : tG K (RD K) W (eB (e2 ma mb f)) σ H Q) :
    tOp (rO (R := RBV) K (fun c d H' => W c d σ H') f) (tG K (RD K) W ma) (tG K (RD K) W mb) σ H Q := by
  obtain ⟨μ, env, ah, he, hs, hp⟩ := h
  exact op2 ⟨μ, env, ah, he, hs, Post.bv hp⟩
theorem pd_cmp {op : CmpOp} {a b : Expr} {ma mb : EM D} {f : D → D → AH → Res Bool} {pos : Pos} (ho : OpD X RBV (compareOp op) f) (ha : PD X W a ma) (hb : PD X W b mb) (hm : behindInMarks op b = false := by first | exact nomark _ | rfl) : PD X W (.Compare a [op] [b] pos) (eB (e2 ma mb f)) :=
  PE.weak (pe_cmpσ (r := fun σ => rO (R := RBV) X.K (fun c d H' => W c d σ H') f) (fun σ => ho _) ha hb hm) fun _ _ _ h => op2b h
theorem pb_cmp {op : CmpOp} {a b : Expr} {ma mb : EM D} {f : D → D → AH → Res Bool} {pos : Pos} (ho : OpD X RBV (compareOp op) f) (ha : PD X W a ma) (hb : PD X W b mb) (hm : behindInMarks op b = false := by first | exact nomark _ | rfl) : PB X W (.Compare a [op] [b] pos) (e2 ma mb f) := by
  refine PT.weak (pt_cmpσ (r := fun σ => rO (R := RBV) X.K (fun c d H' => W c d σ H') f) (fun σ => ho _) ha hb hm) fun σ H Q ⟨μ, env, ah, he, hs, hp⟩ => ?_
  exact op2 ⟨μ, env, ah, he, hs, Post.bb hp⟩
end
end HA
namespace HA
open PySem PySem.Spec PyProof.Rows L2
def line : Nat := 16777216
theorem line_le {n : Nat} (h : n ≤ line) : n ≤ sizeLine := by rw [sizeLine_eq]; exact h
def listAt (ah : AH) (n : Nat) : Option (List D) := match ah[n]? with
  | some (.lst ds) => some ds
  | some (.ro ds) => some ds
  | _ => none
section
variable {K : PySem.W.Frag} {μ : List Addr} {H : Hp}
theorem Sim.list {ah : AH} (S : Sim K μ H ah) {n : Nat} {ds : List D} (e : listAt ah n = some ds) : ∃ a vs, μ[n]? = some a ∧ SqL K H a vs ∧ Reps K μ H ds vs := by
  unfold listAt at e
  split at e
  · rename_i xs q
    cases e
    obtain ⟨a, e1, vs, e2, r⟩ := S.at q
    exact ⟨a, vs, e1, SqL.of e2, r⟩
  · rename_i xs q
    cases e
    obtain ⟨a, e1, vs, e2, r⟩ := S.at q
    refine ⟨a, vs, e1, ?_, r⟩
    rcases e2 with ⟨o, e2⟩ | e2
    · exact .inl (.inr ⟨o, e2⟩)
    · exact .inr e2
  · cases e
end
def mulOk (i j : Int) : Bool := decide (i.natAbs.log2 + j.natAbs.log2 < 1000000)
def dI (b : Bool) : Int := if b = true then 1 else 0
def oAdd : D → D → AH → Res D
  | .int i, .int j, ah => .ok (.int (i + j)) ah
  | .str x, .str y, ah => if x.length + y.length ≤ line then .ok (.str (x ++ y)) ah else .stuck
  | .tup xs, .tup ys, ah => if xs.length + ys.length ≤ line then .ok (.tup (xs ++ ys)) ah else .stuck
  | .int i, .bl b, ah => .ok (.int (i + dI b)) ah
  | .bl b, .int j, ah => .ok (.int (dI b + j)) ah
  | .bl a, .bl b, ah => .ok (.int (dI a + dI b)) ah
  | _, _, _ => .stuck
def oSub : D → D → AH → Res D
  | .int i, .int j, ah => .ok (.int (i - j)) ah
  | .int i, .bl b, ah => .ok (.int (i - dI b)) ah
  | .bl b, .int j, ah => .ok (.int (dI b - j)) ah
  | .bl a, .bl b, ah => .ok (.int (dI a - dI b)) ah
  | _, _, _ => .stuck
def oMul : D → D → AH → Res D
  | .int i, .int j, ah => if mulOk i j = true then .ok (.int (i * j)) ah else .stuck
  | .tup xs, .int k, ah => if xs ≠ [] ∧ 2 ≤ k ∧ k ≤ 1000 ∧ xs.length ≤ 1000 then .ok (.tup (List.replicate k.toNat xs).flatten) ah else .stuck
  | _, _, _ => .stuck
def oFdiv : D → D → AH → Res D
  | .int i, .int j, ah => if 0 < j ∧ j.natAbs.log2 < 9000 then .ok (.int (i / j)) ah else .stuck
  | _, _, _ => .stuck
def oMod : D → D → AH → Res D
  | .int i, .int j, ah => if 0 < j then .ok (.int (i % j)) ah else .stuck
  | _, _, _ => .stuck
def oPow : D → D → AH → Res D
  | .int i, .int j, ah => if 0 ≤ j ∧ j ≤ 1000000 ∧ i.natAbs < 2 ^ 64 then .ok (.int (i ^ j.toNat)) ah else .stuck
  | _, _, _ => .stuck
section
variable {X : Cx} {W : WX}
theorem Post.ok1 {β γ : Type} {K : PySem.W.Frag} {R : Rel β γ} {Wx : Value → Option Addr → Hp → Prop} {μ : List Addr} {H : Hp} {Q : γ → Hp → Prop} {d : β} {ah : AH} (h : Post K R Wx μ H Q (.ok d ah)) {x : γ} (S : Sim K μ H ah) (r : R.r H μ H d x) : Q x H := h μ x H Ext.refl S r
theorem Post.newT {K : PySem.W.Frag} {Wx : Value → Option Addr → Hp → Prop} {μ : List Addr} {H : Hp} {Q : VK} {ds : List D} {ah : AH} (h : Post K (RD K) Wx μ H Q (.ok (.tup ds) ah)) {vs : List V} (S : Sim K μ H ah) (r : Reps K μ H ds vs) {p : Addr} (hp : H p = none) : Q (.ref p) (upd H p (.tup vs)) :=
  h μ _ _ (Ext.other hp) (S.other hp) (by
    show Rep _ _ _ (.tup ds) _
    simp only [Rep]
    exact ⟨p, vs, rfl, SqT.of upd_same, r.ext (Ext.other hp)⟩)
theorem Post.newL {K : PySem.W.Frag} {Wx : Value → Option Addr → Hp → Prop} {μ : List Addr} {H : Hp} {Q : VK} {ds : List D} {ah : AH} (h : Post K (RL K) Wx μ H Q (.ok ds ah)) {vs : List V} (S : Sim K μ H ah) (r : Reps K μ H ds vs) {p : Addr} (hp : H p = none) : Q (.ref p) (upd H p (.lst vs)) :=
  h μ _ _ (Ext.other hp) (S.other hp) ⟨p, vs, rfl, hp, upd_same, S.free hp, r.ext (Ext.other hp)⟩
theorem d_int {K : PySem.W.Frag} {μ : List Addr} {H : Hp} {i : Int} {v : V} (h : Rep K μ H (.int i) v) : v = .int i := by simpa only [Rep] using h
theorem d_str {K : PySem.W.Frag} {μ : List Addr} {H : Hp} {i : Str} {v : V} (h : Rep K μ H (.str i) v) : v = .str i := by simpa only [Rep] using h
theorem d_bl {K : PySem.W.Frag} {μ : List Addr} {H : Hp} {i : Bool} {v : V} (h : Rep K μ H (.bl i) v) : v = .bl i := by simpa only [Rep] using h
theorem d_non {K : PySem.W.Frag} {μ : List Addr} {H : Hp} {v : V} (h : Rep K μ H .non v) : v = .non := by simpa only [Rep] using h
theorem d_tup {K : PySem.W.Frag} {μ : List Addr} {H : Hp} {ds : List D} {v : V} (h : Rep K μ H (.tup ds) v) : ∃ a vs, v = .ref a ∧ SqT K H a vs ∧ Reps K μ H ds vs := by simpa only [Rep] using h
theorem d_ref {K : PySem.W.Frag} {μ : List Addr} {H : Hp} {n : Nat} {v : V} (h : Rep K μ H (.ref n) v) : ∃ a, μ[n]? = some a ∧ v = .ref a := by simpa only [Rep] using h
theorem r_int {K : PySem.W.Frag} {μ : List Addr} {H : Hp} {i : Int} : (RD K).r H μ H (.int i) (.int i) := by simp only [RD, Rep]
theorem r_str {K : PySem.W.Frag} {μ : List Addr} {H : Hp} {i : Str} : (RD K).r H μ H (.str i) (.str i) := by simp only [RD, Rep]
theorem r_bl {K : PySem.W.Frag} {μ : List Addr} {H : Hp} {i : Bool} : (RD K).r H μ H (.bl i) (.bl i) := by simp only [RD, Rep]
theorem r_non {K : PySem.W.Frag} {μ : List Addr} {H : Hp} : (RD K).r H μ H .non .non := by simp only [RD, Rep]
theorem r_tup {K : PySem.W.Frag} {μ : List Addr} {H : Hp} {ds : List D} {a : Addr} {vs : List V} (h : SqT K H a vs) (r : Reps K μ H ds vs) : (RD K).r H μ H (.tup ds) (.ref a) := by
  simp only [RD, Rep]; exact ⟨a, vs, rfl, h, r⟩
theorem OpR.imp {f : Value → Value → Sem Value} {r r' : R2} (h : OpR X f r) (k : ∀ x y H Q, r' x y H Q → r x y H Q) : OpR X f r' :=
  fun pins s σ H x y v u Q I rx ry q => h pins s σ H x y v u Q I rx ry (k x y H Q q)
def rMix (g : Int → Int → Int) : R2 := fun x y H Q => (∃ i b, x = .int i ∧ y = .bl b ∧ Q (.int (g i (dI b))) H) ∨ (∃ b i, x = .bl b ∧ y = .int i ∧ Q (.int (g (dI b) i)) H) ∨ (∃ a b, x = .bl a ∧ y = .bl b ∧ Q (.int (g (dI a) (dI b))) H)
theorem op_add_mix : OpR X (binaryOp .Add) (rMix fun i j => i + j) := by
  intro pins s σ H x y v u Q I rx ry h
  rcases h with ⟨i, b, rfl, rfl, q⟩ | ⟨b, i, rfl, rfl, q⟩ | ⟨a, b, rfl, rfl, q⟩
  · obtain ⟨t, rfl⟩ := rx; cases ry
    exact add_int_bool ⟨.int (i + dI b), H, I.tok _, ⟨_, rfl⟩, q⟩
  · obtain ⟨t, rfl⟩ := ry; cases rx
    exact IntBool.add_bool_int ⟨.int (dI b + i), H, I.tok _, ⟨_, rfl⟩, q⟩
  · cases rx; cases ry
    exact add_bool ⟨.int (dI a + dI b), H, I.tok _, ⟨_, rfl⟩, q⟩
theorem od_add : OpD X (RD X.K) (binaryOp .Add) oAdd := fun Wx => by
  refine OpR.imp ((op_add.or (op_add_str.or op_catA)).or op_add_mix) fun x y H Q ⟨μ, ah, dx, dy, S, rx, ry, hp⟩ => ?_
  unfold oAdd at hp
  split at hp
  · rw [d_int rx, d_int ry]; exact .inl (.inl ⟨_, _, rfl, rfl, hp.ok1 S r_int⟩)
  · split at hp
    · rename_i hl
      rw [d_str rx, d_str ry]; exact .inl (.inr (.inl ⟨_, _, rfl, rfl, line_le hl, hp.ok1 S r_str⟩))
    · exact hp.elim
  · split at hp
    · rename_i ah' xs ys hl
      obtain ⟨a, vs, rfl, hx, r1⟩ := d_tup rx
      obtain ⟨b, ws, rfl, hy, r2⟩ := d_tup ry
      have l1 := r1.length
      have l2 := r2.length
      refine .inl (.inr (.inr ⟨a, b, vs, ws, rfl, rfl, hx, hy, line_le (by omega), ?_⟩))
      refine ⟨fun e => hp.ok1 S (r_tup hy ?_), fun _ e => hp.ok1 S (r_tup hx ?_), fun _ _ p np => hp.newT S (r1.append r2) np⟩
      · subst e
        have z := List.length_eq_zero_iff.mp l1
        rw [z]; exact r2
      · subst e
        have z := List.length_eq_zero_iff.mp l2
        rw [z, List.append_nil]; exact r1
    · exact hp.elim
  · rw [d_int rx, d_bl ry]; exact .inr (.inl ⟨_, _, rfl, rfl, hp.ok1 S r_int⟩)
  · rw [d_bl rx, d_int ry]; exact .inr (.inr (.inl ⟨_, _, rfl, rfl, hp.ok1 S r_int⟩))
  · rw [d_bl rx, d_bl ry]; exact .inr (.inr (.inr ⟨_, _, rfl, rfl, hp.ok1 S r_int⟩))
  · exact hp.elim
theorem od_mul : OpD X (RD X.K) (binaryOp .Mult) oMul := fun Wx => by
  refine OpR.imp (op_mulW.or op_repT) fun x y H Q ⟨μ, ah, dx, dy, S, rx, ry, hp⟩ => ?_
  unfold oMul at hp
  split at hp
  · split at hp
    · rename_i hl
      rw [d_int rx, d_int ry]; exact .inl ⟨_, _, rfl, rfl, by unfold CMulW; unfold mulOk at hl; exact of_decide_eq_true hl, hp.ok1 S r_int⟩
    · exact hp.elim
  · split at hp
    · rename_i ah' xs k hl
      obtain ⟨a, vs, rfl, hx, r1⟩ := d_tup rx
      rw [d_int ry]
      have l1 := r1.length
      refine .inr ⟨a, k, vs, rfl, rfl, hx, fun e => hl.1 (List.length_eq_zero_iff.mp (by rw [l1, e]; rfl)), hl.2.1, hl.2.2.1, by omega, fun p np => hp.newT S ?_ np⟩
      have rep : ∀ n : Nat, Reps X.K μ H (List.replicate n xs).flatten (List.replicate n vs).flatten := fun n => by
        induction n with
        | zero => exact Reps.nil
        | succ n ih => rw [List.replicate_succ, List.replicate_succ, List.flatten_cons, List.flatten_cons]; exact r1.append ih
      exact rep _
    · exact hp.elim
  · exact hp.elim
theorem od_fdiv : OpD X (RD X.K) (binaryOp .FloorDiv) oFdiv := fun Wx => by
  refine OpR.imp op_fdivW fun x y H Q ⟨μ, ah, dx, dy, S, rx, ry, hp⟩ => ?_
  unfold oFdiv at hp
  split at hp
  · split at hp
    · rename_i hl
      rw [d_int rx, d_int ry]; exact ⟨_, _, rfl, rfl, hl, hp.ok1 S r_int⟩
    · exact hp.elim
  · exact hp.elim
theorem od_mod : OpD X (RD X.K) (binaryOp .Mod) oMod := fun Wx => by
  refine OpR.imp op_mod fun x y H Q ⟨μ, ah, dx, dy, S, rx, ry, hp⟩ => ?_
  unfold oMod at hp
  split at hp
  · split at hp
    · rename_i hl
      rw [d_int rx, d_int ry]; exact ⟨_, _, rfl, rfl, hl, hp.ok1 S r_int⟩
    · exact hp.elim
  · exact hp.elim
theorem od_pow : OpD X (RD X.K) (binaryOp .Pow) oPow := fun Wx => by
  refine OpR.imp op_pow fun x y H Q ⟨μ, ah, dx, dy, S, rx, ry, hp⟩ => ?_
  unfold oPow at hp
  split at hp
  · split at hp
    · rename_i hl
      rw [d_int rx, d_int ry]; exact ⟨_, _, rfl, rfl, hl, hp.ok1 S r_int⟩
    · exact hp.elim
  · exact hp.elim
end
end HA
namespace HA
open PySem PySem.Spec PyProof.Rows L2
inductive SR (h : Heap) : Value → PyData → Prop where
  | none : SR h .none .none
  | bool (b : Bool) : SR h (.bool b) (.bool b)
  | int (i : Int) (t : Tok) : SR h (.int i t) (.int i)
  | str (x : Str) (t : Tok) : SR h (.str x t) (.str x)
  | list {a : Addr} {o : Obj} {us : Array Value} {n : Nat} {ps : List PyData} : h.get? a = some o → o.cls = .type "list" → o.data = .seq us n → (us.toList.length = ps.length) → (∀ (i : Nat) u p, us.toList[i]? = some u → ps[i]? = some p → SR h u p) → SR h (.ref a) (.list ps)
  | tuple {a : Addr} {o : Obj} {us : Array Value} {n : Nat} {ps : List PyData} : h.get? a = some o → o.cls = .type "tuple" → o.data = .seq us n → (us.toList.length = ps.length) → (∀ (i : Nat) u p, us.toList[i]? = some u → ps[i]? = some p → SR h u p) → SR h (.ref a) (.tuple ps)
  | dict {a : Addr} {o : Obj} {es : Array DictEntry} {n : Nat} {kvs : List (PyData × PyData)} : h.get? a = some o → o.cls = .type "dict" → o.data = .dict es n → (a == sysModules) = false → es.toList.length = kvs.length →
      (∀ (i : Nat) e q, es.toList[i]? = some e → kvs[i]? = some q → SR h e.key q.1) → (∀ (i : Nat) e q, es.toList[i]? = some e → kvs[i]? = some q → SR h e.val q.2) → SR h (.ref a) (.dict kvs)
theorem readsAll_mk {h : Heap} : ∀ (us : List Value) (ps : List PyData), us.length = ps.length → (∀ (i : Nat) u p, us[i]? = some u → ps[i]? = some p → ∃ as, Reads h u p as) → ∃ as, ReadsAll h us ps as
  | [], [], _, _ => ⟨_, .nil⟩
  | u :: us, p :: ps, hl, hf => by
    obtain ⟨as, h1⟩ := hf 0 u p rfl rfl
    obtain ⟨bs, h2⟩ := readsAll_mk us ps (by simpa using hl) fun i u' p' e1 e2 => hf (i + 1) u' p' (by simpa using e1) (by simpa using e2)
    exact ⟨_, .cons h1 h2⟩
  | [], _ :: _, hl, _ => by simp at hl
  | _ :: _, [], hl, _ => by simp at hl
theorem SR.reads {h : Heap} {v : Value} {d : PyData} (r : SR h v d) : ∃ as, Reads h v d as := by
  induction r with
  | none => exact ⟨_, .none⟩
  | bool b => exact ⟨_, .bool b⟩
  | int i t => exact ⟨_, .int i t⟩
  | str x t => exact ⟨_, .str x t⟩
  | list h1 h2 h3 h4 _ ih =>
    obtain ⟨as, q⟩ := readsAll_mk _ _ h4 ih
    exact ⟨_, .list h1 h2 h3 q⟩
  | tuple h1 h2 h3 h4 _ ih =>
    obtain ⟨as, q⟩ := readsAll_mk _ _ h4 ih
    exact ⟨_, .tuple h1 h2 h3 q⟩
  | @dict a o es n kvs h1 h2 h3 _ h4 _ _ ih1 ih2 =>
    have k1 : ∃ as, ReadsAll h (es.toList.map (·.key)) (kvs.map (·.1)) as := readsAll_mk _ _ (by simpa using h4) fun i u p e1 e2 => by
      rw [List.getElem?_map] at e1 e2
      cases q1 : es.toList[i]? with
      | none => rw [q1] at e1; cases e1
      | some e =>
        cases q2 : kvs[i]? with
        | none => rw [q2] at e2; cases e2
        | some q =>
          rw [q1] at e1; rw [q2] at e2; cases e1; cases e2
          exact ih1 i e q q1 q2
    have k2 : ∃ as, ReadsAll h (es.toList.map (·.val)) (kvs.map (·.2)) as := readsAll_mk _ _ (by simpa using h4) fun i u p e1 e2 => by
      rw [List.getElem?_map] at e1 e2
      cases q1 : es.toList[i]? with
      | none => rw [q1] at e1; cases e1
      | some e =>
        cases q2 : kvs[i]? with
        | none => rw [q2] at e2; cases e2
        | some q =>
          rw [q1] at e1; rw [q2] at e2; cases e1; cases e2
          exact ih2 i e q q1 q2
    obtain ⟨as, k1⟩ := k1
    obtain ⟨bs, k2⟩ := k2
    exact ⟨_, .dict h1 h2 h3 k1 k2⟩
section
variable {prog : Program} {w : World} {h : Heap}
def RK (prog : Program) (w : World) (h : Heap) (u : Value) (p : PyData) : Prop := p.showable = true → p.shown.length ≤ sizeLine → ∃ bs, ReadAtMost h p.depth bs ∧ ReprK prog w bs h p.depth u p.shown
theorem rk_all : ∀ (us : List Value) (ps : List PyData), us.length = ps.length → (∀ (i : Nat) u p, us[i]? = some u → ps[i]? = some p → RK prog w h u p) → PyData.showableAll ps = true → (∀ t ∈ PyData.shownAll ps, t.length ≤ sizeLine) →
    ∃ bs, ReadAtMost h (PyData.depthAll ps) bs ∧ ReprAllK prog w bs h (PyData.depthAll ps) us (PyData.shownAll ps)
  | [], [], _, _, _, _ => ⟨[], (fun _ z => nomatch z), by simp only [PyData.shownAll]; exact .nil⟩
  | [], _ :: _, hl, _, _, _ => by simp at hl
  | _ :: _, [], hl, _, _, _ => by simp at hl
  | u :: us, p :: ps, hl, hf, hs, hz => by
    simp only [PyData.showableAll, Bool.and_eq_true] at hs
    simp only [PyData.shownAll, List.mem_cons] at hz
    obtain ⟨c1, m1, q1⟩ := hf 0 u p rfl rfl hs.1 (hz _ (.inl rfl))
    obtain ⟨c2, m2, q2⟩ := rk_all us ps (by simpa using hl) (fun i u' p' e1 e2 => hf (i + 1) u' p' (by simpa using e1) (by simpa using e2)) hs.2 fun t ht => hz t (.inr ht)
    have l1 : p.depth ≤ PyData.depthAll (p :: ps) := by simp only [PyData.depthAll]; exact Nat.le_max_left _ _
    have l2 : PyData.depthAll ps ≤ PyData.depthAll (p :: ps) := by simp only [PyData.depthAll]; exact Nat.le_max_right _ _
    refine ⟨c1 ++ c2, (m1.mono l1).append (m2.mono l2), ?_⟩
    simp only [PyData.shownAll]
    exact .cons ((q1.more fun b z => List.mem_append.mpr (.inl z)).level_le l1) (q2.more_le (fun b z => List.mem_append.mpr (.inr z)) l2)
theorem rk_list {a : Addr} {o : Obj} {us : Array Value} {n : Nat} {ps : List PyData} (h1 : h.get? a = some o) (h2 : o.cls = .type "list") (h3 : o.data = .seq us n) (rd : ∃ as, Reads h (.ref a) (.list ps) as) (hl : us.toList.length = ps.length)
    (hf : ∀ (i : Nat) u p, us.toList[i]? = some u → ps[i]? = some p → RK prog w h u p) (hs : PyData.showable (.list ps) = true) (hz : (PyData.shown (.list ps)).length ≤ sizeLine) :
    ∃ bs, ReadAtMost h (PyData.depthAll ps) bs ∧ a ∉ bs ∧ ReprAllK prog w bs h (PyData.depthAll ps) us.toList (PyData.shownAll ps) := by
  simp only [PyData.shown] at hz
  simp only [PyData.showable] at hs
  obtain ⟨bs, hb, hk⟩ := rk_all us.toList ps hl hf hs fun t ht => Nat.le_trans (listText_mem_le ht) hz
  obtain ⟨as, r⟩ := rd
  exact ⟨bs, hb, not_mem_of_deeper r (by simp only [PyData.depth]; omega) hb, hk⟩
theorem rk_tuple {a : Addr} {o : Obj} {us : Array Value} {n : Nat} {ps : List PyData} (h1 : h.get? a = some o) (h2 : o.cls = .type "tuple") (h3 : o.data = .seq us n) (rd : ∃ as, Reads h (.ref a) (.tuple ps) as) (hl : us.toList.length = ps.length)
    (hf : ∀ (i : Nat) u p, us.toList[i]? = some u → ps[i]? = some p → RK prog w h u p) (hs : PyData.showable (.tuple ps) = true) (hz : (PyData.shown (.tuple ps)).length ≤ sizeLine) :
    ∃ bs, ReadAtMost h (PyData.depthAll ps) bs ∧ a ∉ bs ∧ ReprAllK prog w bs h (PyData.depthAll ps) us.toList (PyData.shownAll ps) := by
  simp only [PyData.shown] at hz
  simp only [PyData.showable] at hs
  obtain ⟨bs, hb, hk⟩ := rk_all us.toList ps hl hf hs fun t ht => Nat.le_trans (tupleText_mem_le ht) hz
  obtain ⟨as, r⟩ := rd
  exact ⟨bs, hb, not_mem_of_deeper r (by simp only [PyData.depth]; omega) hb, hk⟩
theorem map_get {α β : Type} {f : α → β} {l : List α} {i : Nat} {b : β} (e : (l.map f)[i]? = some b) : ∃ a, l[i]? = some a ∧ b = f a := by
  rw [List.getElem?_map] at e
  cases q : l[i]? with
  | none => rw [q] at e; cases e
  | some a => rw [q] at e; cases e; exact ⟨a, rfl, rfl⟩
theorem rk_dict {a : Addr} {o : Obj} {es : Array DictEntry} {n : Nat} {kvs : List (PyData × PyData)} (h1 : h.get? a = some o) (h2 : o.cls = .type "dict") (h3 : o.data = .dict es n) (rd : ∃ as, Reads h (.ref a) (.dict kvs) as) (hl : es.toList.length = kvs.length)
    (hf : ∀ (i : Nat) e q, es.toList[i]? = some e → kvs[i]? = some q → RK prog w h e.key q.1) (hg : ∀ (i : Nat) e q, es.toList[i]? = some e → kvs[i]? = some q → RK prog w h e.val q.2) (hs : PyData.showable (.dict kvs) = true) (hz : (PyData.shown (.dict kvs)).length ≤ sizeLine) :
    ∃ bs, ReadAtMost h (PyData.depthKv kvs) bs ∧ a ∉ bs ∧ ReprEntriesK prog w bs h (PyData.depthKv kvs) es.toList (PyData.shownKv kvs) := by
  simp only [PyData.shown] at hz
  simp only [PyData.showable] at hs
  obtain ⟨s1, s2⟩ := PyData.showableKv_split kvs hs
  have up : ∀ (t : Str) (p : Str), p ∈ PyData.shownKv kvs → t.length ≤ p.length → t.length ≤ sizeLine := fun t p hp ht => Nat.le_trans ht (Nat.le_trans (dictText_mem_le hp) hz)
  obtain ⟨c1, m1, q1⟩ := rk_all (prog := prog) (w := w) (h := h) (es.toList.map (·.key)) (kvs.map (·.1)) (by simpa using hl) (fun i u p e1 e2 => by
    obtain ⟨e, x1, rfl⟩ := map_get e1
    obtain ⟨q, x2, rfl⟩ := map_get e2
    exact hf i e q x1 x2) s1 fun t ht => let ⟨p, hp, l⟩ := PyData.shownKv_key_le kvs t ht; up t p hp l
  obtain ⟨c2, m2, q2⟩ := rk_all (prog := prog) (w := w) (h := h) (es.toList.map (·.val)) (kvs.map (·.2)) (by simpa using hl) (fun i u p e1 e2 => by
    obtain ⟨e, x1, rfl⟩ := map_get e1
    obtain ⟨q, x2, rfl⟩ := map_get e2
    exact hg i e q x1 x2) s2 fun t ht => let ⟨p, hp, l⟩ := PyData.shownKv_val_le kvs t ht; up t p hp l
  obtain ⟨as, r⟩ := rd
  have hb : ReadAtMost h (PyData.depthKv kvs) (c1 ++ c2) := (m1.mono (PyData.depthAll_keys_le kvs)).append (m2.mono (PyData.depthAll_vals_le kvs))
  refine ⟨c1 ++ c2, hb, not_mem_of_deeper r (by simp only [PyData.depth]; omega) hb, ?_⟩
  rw [PyData.shownKv_eq]
  exact ReprEntriesK.of_two es.toList _ _ (q1.more_le (fun b z => List.mem_append.mpr (.inl z)) (PyData.depthAll_keys_le kvs)) (q2.more_le (fun b z => List.mem_append.mpr (.inr z)) (PyData.depthAll_vals_le kvs))
theorem SR.rk {v : Value} {d : PyData} (r : SR h v d) : RK prog w h v d := by
  induction r with
  | none => exact fun _ _ => ⟨[], (fun _ z => nomatch z), by simp only [PyData.shown]; exact .of_is ReprIs.none _ _ _⟩
  | bool b => exact fun _ _ => ⟨[], (fun _ z => nomatch z), by simp only [PyData.shown]; exact .of_is (ReprIs.bool b) _ _ _⟩
  | int i t => exact fun hs _ => ⟨[], (fun _ z => nomatch z), by simp only [PyData.shown]; exact .of_is (ReprIs.int t (by simpa [PyData.showable] using hs)) _ _ _⟩
  | str x t => exact fun _ hz => ⟨[], (fun _ z => nomatch z), by simp only [PyData.shown] at hz ⊢; exact .of_is (ReprIs.str x t hz) _ _ _⟩
  | @list a o us n ps h1 h2 h3 h4 h5 ih =>
    intro hs hz
    have rd := (SR.list h1 h2 h3 h4 h5).reads
    obtain ⟨bs, hb, hna, hk⟩ := rk_list h1 h2 h3 rd h4 ih hs hz
    obtain ⟨as, r⟩ := rd
    refine ⟨a :: bs, ReadAtMost.cons r (by simp only [PyData.depth]; omega) hb, ?_⟩
    simp only [PyData.depth, PyData.shown]
    obtain ⟨l⟩ := us
    cases l with
    | nil =>
      cases ps with
      | nil =>
        simp only [PyData.shownAll, listText_nil]
        exact ReprK.listEmpty h1 h2 h3
      | cons _ _ => simp at h4
    | cons x l => exact ReprK.list h1 h2 h3 hna (by simpa using hk.length_eq) fun i y e => hk.item i y (by simpa using e)
  | @tuple a o us n ps h1 h2 h3 h4 h5 ih =>
    intro hs hz
    have rd := (SR.tuple h1 h2 h3 h4 h5).reads
    obtain ⟨bs, hb, hna, hk⟩ := rk_tuple h1 h2 h3 rd h4 ih hs hz
    obtain ⟨as, r⟩ := rd
    refine ⟨a :: bs, ReadAtMost.cons r (by simp only [PyData.depth]; omega) hb, ?_⟩
    simp only [PyData.depth, PyData.shown]
    exact ReprK.tuple h1 h2 h3 hna hk
  | @dict a o es n kvs h1 h2 h3 hsys h4 h5 h6 ih1 ih2 =>
    intro hs hz
    have rd := (SR.dict h1 h2 h3 hsys h4 h5 h6).reads
    obtain ⟨bs, hb, hna, hk⟩ := rk_dict h1 h2 h3 rd h4 ih1 ih2 hs hz
    obtain ⟨as, r⟩ := rd
    refine ⟨a :: bs, ReadAtMost.cons r (by simp only [PyData.depth]; omega) hb, ?_⟩
    simp only [PyData.depth, PyData.shown]
    exact ReprK.dict h1 h2 h3 hsys hna hk
theorem SR.shows {a : Addr} {d : PyData} (r : SR h (.ref a) d) (hs : d.showable = true) (hz : d.shown.length ≤ sizeLine) : ∃ T idr, ShowsBy prog w h a d T idr := by
  have rd := r.reads
  cases r with
  | @list _ o us n ps h1 h2 h3 h4 h5 =>
    obtain ⟨bs, hb, hna, hk⟩ := rk_list h1 h2 h3 rd h4 (fun i u p e1 e2 => (h5 i u p e1 e2).rk) hs hz
    refine ⟨"list", "list.__repr__", F.slot_list_repr.toG, F.slot_list_str, F.slot_list_format, fun s k0 => ⟨o, k0 _ _ h1, h2⟩, fun A E s Q hg hu k0 hQ => ?_⟩
    simp only [PyData.depth] at hu
    simp only [PyData.shown] at hQ hz
    obtain ⟨l⟩ := us
    cases l with
    | nil =>
      cases ps with
      | nil =>
        simp only [PyData.shownAll, listText_nil] at hQ
        exact call_list_repr_empty ⟨o, k0 _ _ h1, h2⟩ (k0 _ _ h1) h3 (hQ s.heap _ _ fun _ _ e => e)
      | cons _ _ => simp at h4
    | cons x l => exact call_list_reprK h1 h2 h3 hna (by simpa using hk.length_eq) (fun i y e => hk.item i y (by simpa using e)) hg (fun b _ => Clear.nil b) hu k0 hQ hz
  | @tuple _ o us n ps h1 h2 h3 h4 h5 =>
    obtain ⟨bs, hb, hna, hk⟩ := rk_tuple h1 h2 h3 rd h4 (fun i u p e1 e2 => (h5 i u p e1 e2).rk) hs hz
    refine ⟨"tuple", "tuple.__repr__", F.slot_tuple_repr, F.slot_tuple_str, F.slot_tuple_format, fun s k0 => ⟨o, k0 _ _ h1, h2⟩, fun A E s Q hg hu k0 hQ => ?_⟩
    simp only [PyData.depth] at hu
    simp only [PyData.shown] at hQ hz
    exact call_tuple_reprK h1 h2 h3 hna hk hg (fun b _ => Clear.nil b) hu k0 hQ hz
  | @dict _ o es n kvs h1 h2 h3 hsys h4 h5 h6 =>
    obtain ⟨bs, hb, hna, hk⟩ := rk_dict h1 h2 h3 rd h4 (fun i u p e1 e2 => (h5 i u p e1 e2).rk) (fun i u p e1 e2 => (h6 i u p e1 e2).rk) hs hz
    refine ⟨"dict", "dict.__repr__", F.slot_dict_repr, F.slot_dict_str, F.slot_dict_format, fun s k0 => ⟨o, k0 _ _ h1, h2⟩, fun A E s Q hg hu k0 hQ => ?_⟩
    simp only [PyData.depth] at hu
    simp only [PyData.shown] at hQ hz
    exact call_dict_reprK h1 h2 h3 hsys hna hk hg (fun b _ => Clear.nil b) hu k0 hQ hz
theorem SR.repr {v : Value} {d : PyData} {A : Around} {E : Value → Shared → Prop} {s : Shared} {Q : Value → Shared → Prop} (r : SR s.heap v d) (hs : d.showable = true) (hz : d.shown.length ≤ sizeLine) (hg : A.guards = some []) (hu : A.units + (d.depth + 1) < cLine)
    (hQ : ∀ h' u tk, (∀ b o, s.heap.get? b = some o → h'.get? b = some o) → Q (.str d.shown u) { s with heap := h', toks := tk }) : wpAny (model prog w) A (call (.builtin "repr") [v]) Q E s := by
  have r' := r
  cases r with
  | none => simp only [PyData.shown] at hQ; exact PySem.P.repr_of_none (hQ s.heap _ _ fun _ _ e => e)
  | bool b => simp only [PyData.shown] at hQ; exact PySem.P.repr_of_bool (hQ s.heap _ _ fun _ _ e => e)
  | int i t => simp only [PyData.shown] at hQ; exact PySem.P.repr_of_int (by simpa [PyData.showable] using hs) (hQ s.heap _ _ fun _ _ e => e)
  | str x t => simp only [PyData.shown] at hQ hz; exact PySem.P.repr_of_str (hQ s.heap _ _ fun _ _ e => e) hz
  | list _ _ _ _ _ =>
    obtain ⟨T, idr, S⟩ := SR.shows (prog := prog) (w := w) r' hs hz
    exact call_repr_slot (by omega) (S.typeIs s fun _ _ e => e) S.slotRepr (S.call A.in1 E s _ hg (by show A.units + 1 + _ < cLine; omega) (fun _ _ e => e) fun h' u tk hk => ⟨_, _, rfl, hQ h' u tk hk⟩)
  | tuple _ _ _ _ _ =>
    obtain ⟨T, idr, S⟩ := SR.shows (prog := prog) (w := w) r' hs hz
    exact call_repr_slot (by omega) (S.typeIs s fun _ _ e => e) S.slotRepr (S.call A.in1 E s _ hg (by show A.units + 1 + _ < cLine; omega) (fun _ _ e => e) fun h' u tk hk => ⟨_, _, rfl, hQ h' u tk hk⟩)
  | dict _ _ _ _ _ _ _ =>
    obtain ⟨T, idr, S⟩ := SR.shows (prog := prog) (w := w) r' hs hz
    exact call_repr_slot (by omega) (S.typeIs s fun _ _ e => e) S.slotRepr (S.call A.in1 E s _ hg (by show A.units + 1 + _ < cLine; omega) (fun _ _ e => e) fun h' u tk hk => ⟨_, _, rfl, hQ h' u tk hk⟩)
end
def optAll {α β : Type} (f : α → Option β) : List α → Option (List β)
  | [] => some []
  | a :: r => match f a, optAll f r with
    | some b, some bs => some (b :: bs)
    | _, _ => none
theorem optAll_cons {α β : Type} {f : α → Option β} {a : α} {r : List α} {bs : List β} (h : optAll f (a :: r) = some bs) : ∃ b cs, bs = b :: cs ∧ f a = some b ∧ optAll f r = some cs := by
  unfold optAll at h
  split at h
  · rename_i b cs h1 h2
    cases h
    exact ⟨b, cs, rfl, h1, h2⟩
  · cases h
theorem optAll_length {α β : Type} {f : α → Option β} : ∀ {l : List α} {bs : List β}, optAll f l = some bs → l.length = bs.length
  | [], bs, h => by cases h; rfl
  | a :: r, bs, h => by
    obtain ⟨b, cs, rfl, _, h2⟩ := optAll_cons h
    simp [optAll_length h2]
theorem optAll_get {α β : Type} {f : α → Option β} : ∀ {l : List α} {bs : List β} {i : Nat} {a : α} {b : β}, optAll f l = some bs → l[i]? = some a → bs[i]? = some b → f a = some b
  | [], bs, i, a, b, h, e, _ => by simp at e
  | x :: r, bs, i, a, b, h, e1, e2 => by
    obtain ⟨y, cs, rfl, h1, h2⟩ := optAll_cons h
    cases i with
    | zero => simp at e1 e2; subst e1; subst e2; exact h1
    | succ i => exact optAll_get (i := i) h2 (by simpa using e1) (by simpa using e2)
def keyP : Key → PyData
  | .inl i => .int i
  | .inr x => .str x
def toP (ah : AH) : Nat → D → Option PyData
  | 0, _ => none
  | f + 1, d => match d with
    | .non => some .none
    | .bl b => some (.bool b)
    | .int i => some (.int i)
    | .str x => some (.str x)
    | .tup ds => (optAll (toP ah f) ds).map .tuple
    | .ref n => match ah[n]? with
      | some (.lst ds) => (optAll (toP ah f) ds).map .list
      | some (.ro ds) => (optAll (toP ah f) ds).map .list
      | some (.dK kvs) => (optAll (toP ah f) (kvs.map (·.2))).map fun vs => .dict ((kvs.map fun kv => keyP kv.1).zip vs)
      | _ => none
    | .cst _ => none
    | .glo _ => none
    | .xv _ _ _ _ => none
def deep : Nat := 63
abbrev pd (ah : AH) (d : D) : Option PyData := toP ah deep d
theorem pairs_get {P : Program} {w : World} {es : List DictEntry} {kvs : List (Key × Value)} (p : Pairs (mixKind P w) es kvs) : es.length = kvs.length ∧ ∀ (i : Nat) e q, es[i]? = some e → kvs[i]? = some q → keyIs q.1 e.key = true ∧ e.val = q.2 := by
  induction p with
  | nil => exact ⟨rfl, fun i e q z => by simp at z⟩
  | cons h1 h2 _ ih =>
    refine ⟨by simp [ih.1], fun i e q z1 z2 => ?_⟩
    cases i with
    | zero => simp at z1 z2; subst z1; subst z2; exact ⟨h1, h2⟩
    | succ i => exact ih.2 i e q (by simpa using z1) (by simpa using z2)
theorem kv_get {kvs : List (Key × V)} {vs : List (Key × Value)} (r : KV kvs vs) : kvs.length = vs.length ∧ ∀ (i : Nat) a b, kvs[i]? = some a → vs[i]? = some b → a.1 = b.1 ∧ RelV a.2 b.2 := by
  refine ⟨KV.length r, ?_⟩
  induction r with
  | nil => exact fun i a b z => by simp at z
  | cons h1 _ ih =>
    intro i a b z1 z2
    cases i with
    | zero => simp at z1 z2; subst z1; subst z2; exact h1
    | succ i => exact ih i a b (by simpa using z1) (by simpa using z2)
section
variable {X : Cx} {pins : List (Addr × Obj)} {σ : L2.St} {μ : List Addr} {H : Hp} {s : Shared} {ah : AH}
theorem Inv.sr (I : Inv X pins σ H s) (S : Sim X.K μ H ah) : ∀ (f : Nat) (d : D) (v : V) (u : Value) (p : PyData), toP ah f d = some p → Rep X.K μ H d v → RelV v u → SR s.heap u p
  | 0, _, _, _, _, h, _, _ => by cases h
  | f + 1, d, v, u, p, h, r, ru => by
    have seqs : ∀ (ds : List D) (vs : List V) (us : List Value) (ps : List PyData), optAll (toP ah f) ds = some ps → Reps X.K μ H ds vs → Vals vs us → us.length = ps.length ∧ ∀ (i : Nat) u p, us[i]? = some u → ps[i]? = some p → SR s.heap u p := fun ds vs us ps h1 h2 h3 => by
      refine ⟨by rw [← h3.length, ← h2.length]; exact optAll_length h1, fun i u p e1 e2 => ?_⟩
      have hi : i < ds.length := by rw [optAll_length h1]; exact (List.getElem?_eq_some_iff.mp e2).1
      have e3 : ds[i]? = some ds[i] := List.getElem?_eq_getElem hi
      obtain ⟨v, e4, rv⟩ := h2.get e3
      obtain ⟨u', e5, ru'⟩ := h3.get e4
      rw [e1] at e5; cases e5
      exact Inv.sr I S f _ v u p (optAll_get h1 e3 e2) rv ru'
    cases d with
    | non => cases h; rw [d_non r] at ru; cases ru; exact .none
    | bl b => cases h; rw [d_bl r] at ru; cases ru; exact .bool b
    | int i => cases h; rw [d_int r] at ru; obtain ⟨t, rfl⟩ := ru; exact .int i t
    | str x => cases h; rw [d_str r] at ru; obtain ⟨t, rfl⟩ := ru; exact .str x t
    | cst v => cases h
    | glo v => cases h
    | xv a d ks ds => cases h
    | tup ds =>
      obtain ⟨ps, h1, rfl⟩ := Option.map_eq_some_iff.mp h
      obtain ⟨a, vs, rfl, q, r2⟩ := d_tup r
      cases ru
      obtain ⟨its, rv, ⟨o, e1, e2, n, e3⟩, _⟩ := I.tuple q
      obtain ⟨l, g⟩ := seqs ds vs its ps h1 r2 rv
      exact .tuple e1 e2 e3 l g
    | ref n =>
      obtain ⟨a, ea, rfl⟩ := d_ref r
      cases ru
      have lists : ∀ ds ps, listAt ah n = some ds → optAll (toP ah f) ds = some ps → SR s.heap (.ref a) (.list ps) := fun ds ps hl h1 => by
        obtain ⟨b, vs, eb, q, r2⟩ := S.list hl
        rw [ea] at eb; cases eb
        obtain ⟨its, rv, ⟨o, m, e1, e2, _, e3⟩, _⟩ := I.list q
        obtain ⟨l, g⟩ := seqs ds vs its ps h1 r2 rv
        exact .list e1 e2 e3 l g
      unfold toP at h
      dsimp only at h
      split at h
      · rename_i ds e
        obtain ⟨ps, h1, rfl⟩ := Option.map_eq_some_iff.mp h
        exact lists ds ps (by unfold listAt; rw [e]) h1
      · rename_i ds e
        obtain ⟨ps, h1, rfl⟩ := Option.map_eq_some_iff.mp h
        exact lists ds ps (by unfold listAt; rw [e]) h1
      · rename_i kvs e
        obtain ⟨ps, h1, rfl⟩ := Option.map_eq_some_iff.mp h
        obtain ⟨kws, e0, ek, r2⟩ := S.ok n a _ ea e
        obtain ⟨_, hsys, vs, rkv, o, es, ep, e1, e2, e3, _, pr, _⟩ := dk_of I.hok e0
        obtain ⟨l1, g1⟩ := pairs_get pr
        obtain ⟨l2, g2⟩ := kv_get rkv
        have l3 : kvs.length = kws.length := by simpa using congrArg List.length ek
        have l4 : (kvs.map (·.2)).length = ps.length := optAll_length h1
        rw [List.length_map] at l4
        have key : ∀ (i : Nat) e q, es.toList[i]? = some e → ((kvs.map fun kv => keyP kv.1).zip ps)[i]? = some q → SR s.heap e.key q.1 ∧ SR s.heap e.val q.2 := fun i e q x1 x2 => by
          obtain ⟨x3, x4⟩ := List.getElem?_zip_eq_some.mp x2
          obtain ⟨kv, x5, x6⟩ := map_get x3
          have hi : i < kws.length := by rw [← l3]; exact (List.getElem?_eq_some_iff.mp x5).1
          have x7 : kws[i]? = some kws[i] := List.getElem?_eq_getElem hi
          have x8 : vs[i]? = some (vs[i]'(by omega)) := List.getElem?_eq_getElem _
          obtain ⟨y1, y2⟩ := g2 i _ _ x7 x8
          obtain ⟨y3, y4⟩ := g1 i _ _ x1 x8
          have z1 : kv.1 = kws[i].1 := by
            have z := congrArg (fun l => l[i]?) ek
            simp only [List.getElem?_map, x5, x7, Option.map_some] at z
            exact Option.some.inj z
          have x9 : (kvs.map (·.2))[i]? = some kv.2 := by rw [List.getElem?_map, x5]; rfl
          obtain ⟨v, y5, y6⟩ := r2.get x9
          have z2 : v = kws[i].2 := by
            rw [List.getElem?_map, x7] at y5
            exact (Option.some.inj y5).symm
          subst z2
          refine ⟨?_, ?_⟩
          · rw [x6]
            rw [← y1, ← z1] at y3
            rcases keyIs_shape y3 with ⟨j, t, k1, k2⟩ | ⟨x, t, k1, k2⟩
            · rw [k1, k2]; exact .int j t
            · rw [k1, k2]; exact .str x t
          · rw [y4]
            exact Inv.sr I S f kv.2 _ _ q.2 (optAll_get h1 x9 x4) y6 y2
        refine .dict e1 e2.1 e3 hsys ?_ (fun i e q x1 x2 => (key i e q x1 x2).1) fun i e q x1 x2 => (key i e q x1 x2).2
        rw [l1, ← l2, List.length_zip, List.length_map]
        omega
      · cases h
end
end HA
namespace HA
open PySem PySem.Spec PyProof.Rows L2
structure Rm (k : Nat) (A : Around) : Prop where
  room : Room k A
  gd : A.guards = some []
theorem Rm.mono {j k : Nat} {A : Around} (r : Rm k A) (h : j ≤ k) : Rm j A := ⟨r.room.mono h, r.gd⟩
theorem Rm.u65 {k : Nat} {A : Around} (r : Rm k A) : A.units + 65 < cLine := by have := r.room.un; omega
theorem Rm.u64 {k : Nat} {A : Around} (r : Rm k A) : A.units + 64 < cLine := by have := r.room.un; omega
theorem Rm.u1 {k : Nat} {A : Around} (r : Rm k A) : A.units + 1 < cLine := by have := r.room.un; omega
def eqData (ah : AH) (x y : D) : Option Bool := match pd ah x, pd ah y with
  | some p, some q => if SeqAt.shaped p = true ∧ SeqAt.shaped q = true then some (PyData.eqv p q) else none
  | _, _ => none
def eqLen (ah : AH) (x y : D) : Option Bool := match x, y with
  | .tup xs, .tup ys => if xs.isEmpty || ys.isEmpty then some (xs.isEmpty && ys.isEmpty) else none
  | .ref n, .ref m => match listAt ah n, listAt ah m with
    | some xs, some ys => if xs.length ≠ ys.length then some false else none
    | _, _ => none
  | _, _ => none
def cEq : D → D → AH → Res Bool
  | .int i, .int j, ah => .ok (decide (i = j)) ah
  | .str a, .str b, ah => .ok (decide (a = b)) ah
  | .bl a, .bl b, ah => .ok (decide (a = b)) ah
  | x, y, ah => match eqData ah x y with
    | some b => .ok b ah
    | none => match eqLen ah x y with
      | some b => .ok b ah
      | none => .stuck
def cNe (x y : D) (ah : AH) : Res Bool := (cEq x y ah).bind fun b ah => .ok (!b) ah
section
variable {X : Cx} {W : WX} {k : Nat}
theorem rEq_scal {K : PySem.W.Frag} {Wx : Value → Option Addr → Hp → Prop} {H : Hp} {Q : VK} {μ : List Addr} {ah : AH} {a b : V} {c : Bool} (hs : scal a b = true) (hc : decide (a = b) = c) (hp : Post K RBV Wx μ H Q (.ok c ah)) (S : Sim K μ H ah) : rEq a b H Q := ⟨hs, hp.ok1 S (by rw [hc]; rfl)⟩
theorem op_eqS (hu : X.A.units + 64 < cLine) : OpR X (compareOp .Eq) (fun x y H Q => ∃ μ ah dx dy b, Sim X.K μ H ah ∧ Rep X.K μ H dx x ∧ Rep X.K μ H dy y ∧ eqData ah dx dy = some b ∧ Q (.bl b) H) := by
  intro pins s σ H x y v u Q I rx ry ⟨μ, ah, dx, dy, b, S, r1, r2, e, q⟩
  unfold eqData at e
  split at e
  · rename_i p1 p2 e1 e2
    split at e
    · rename_i hs
      cases e
      obtain ⟨as, q1⟩ := (Inv.sr I S deep dx x v p1 e1 r1 rx).reads
      obtain ⟨bs, q2⟩ := (Inv.sr I S deep dy y u p2 e2 r2 ry).reads
      exact SeqAt.compareEq_shaped q1 q2 hs.1 hs.2 hu ⟨.bl _, H, I, rfl, q⟩
    · cases e
  · cases e
theorem op_neS (hu : X.A.units + 64 < cLine) : OpR X (compareOp .NotEq) (fun x y H Q => ∃ μ ah dx dy b, Sim X.K μ H ah ∧ Rep X.K μ H dx x ∧ Rep X.K μ H dy y ∧ eqData ah dx dy = some b ∧ Q (.bl (!b)) H) := by
  intro pins s σ H x y v u Q I rx ry ⟨μ, ah, dx, dy, b, S, r1, r2, e, q⟩
  unfold eqData at e
  split at e
  · rename_i p1 p2 e1 e2
    split at e
    · rename_i hs
      cases e
      obtain ⟨as, q1⟩ := (Inv.sr I S deep dx x v p1 e1 r1 rx).reads
      obtain ⟨bs, q2⟩ := (Inv.sr I S deep dy y u p2 e2 r2 ry).reads
      exact SeqAt.compareNe_shaped q1 q2 hs.1 hs.2 hu ⟨.bl _, H, I, rfl, q⟩
    · cases e
  · cases e
theorem range_empty {e : Nat → Bool} {m n : Nat} (h : m = 0 ∨ n = 0) : ((List.range (min m n)).all e && (m == n)) = (decide (m = 0) && decide (n = 0)) := by
  rcases h with h | h
  · subst h; simp; cases n <;> simp
  · subst h; simp; cases m <;> simp
theorem isEmpty_arr {α β : Type} {a : List α} {b : List β} (h : a.length = b.length) : a.isEmpty = decide (b.toArray.size = 0) := by
  cases a with
  | nil => cases b with
    | nil => rfl
    | cons y ys => simp at h
  | cons x xs => cases b with
    | nil => simp at h
    | cons y ys => simp
theorem eqLen_at {pins : List (Addr × Obj)} {σ : L2.St} {H : Hp} {s : Shared} {μ : List Addr} {ah : AH} {dx dy : D} {x y : V} {v u : Value} {b : Bool} (I : Inv X pins σ H s) (S : Sim X.K μ H ah) (r1 : Rep X.K μ H dx x) (r2 : Rep X.K μ H dy y) (rx : RelV x v) (ry : RelV y u) (e : eqLen ah dx dy = some b) (hu : X.A.units < cLine) :
    SeqAt.RcAt X.A s v u b ∧ SeqAt.RcNeAt X.A s v u (!b) := by
  unfold eqLen at e
  split at e
  · rename_i xs ys
    obtain ⟨a, vs, rfl, q1, rr1⟩ := d_tup r1
    obtain ⟨c, ws, rfl, q2, rr2⟩ := d_tup r2
    cases rx; cases ry
    obtain ⟨its, w1, p1, _⟩ := I.tuple q1
    obtain ⟨its2, w2, p2, _⟩ := I.tuple q2
    have l1 : xs.length = its.length := rr1.length.trans w1.length
    have l2 : ys.length = its2.length := rr2.length.trans w2.length
    split at e
    · rename_i hz
      cases e
      have hz' : its.toArray.size = 0 ∨ its2.toArray.size = 0 := by
        rw [isEmpty_arr l1, isEmpty_arr l2, Bool.or_eq_true, decide_eq_true_eq, decide_eq_true_eq] at hz
        exact hz
      have he : ∀ j (h1 : j < its.toArray.size) (h2 : j < its2.toArray.size), SeqAt.EqAt X.A.in1 s its.toArray[j] its2.toArray[j] ((fun _ => true) j) := fun j h1 h2 => by omega
      have A1 := SeqAt.RcAt.tuples (e := fun _ => true) p1 p2 hu he
      have A2 := SeqAt.RcNeAt.tuples (e := fun _ => true) p1 p2 hu he
      rw [range_empty hz'] at A1 A2
      rw [isEmpty_arr l1, isEmpty_arr l2]
      exact ⟨A1, A2⟩
    · cases e
  · rename_i n m
    split at e
    · rename_i xs ys e1 e2
      split at e
      · rename_i hz
        cases e
        obtain ⟨a, vs, m1, q1, rr1⟩ := S.list e1
        obtain ⟨c, ws, m2, q2, rr2⟩ := S.list e2
        obtain ⟨a', m1', rfl⟩ := d_ref r1
        obtain ⟨c', m2', rfl⟩ := d_ref r2
        rw [m1] at m1'; cases m1'
        rw [m2] at m2'; cases m2'
        cases rx; cases ry
        obtain ⟨its, w1, ⟨o1, n1, g1, c1, _, d1⟩, _⟩ := I.list q1
        obtain ⟨its2, w2, ⟨o2, n2, g2, c2, _, d2⟩, _⟩ := I.list q2
        have l1 : xs.length = its.length := rr1.length.trans w1.length
        have l2 : ys.length = its2.length := rr2.length.trans w2.length
        have hs : (its.toArray.size != its2.toArray.size) = true := by
          rw [List.size_toArray, List.size_toArray, bne_iff_ne]
          omega
        exact ⟨SeqAt.RcAt.lists_lengths ⟨o1, g1, c1, n1, d1⟩ ⟨o2, g2, c2, n2, d2⟩ hs hu, SeqAt.RcNeAt.lists_lengths ⟨o1, g1, c1, n1, d1⟩ ⟨o2, g2, c2, n2, d2⟩ hs hu⟩
      · cases e
    · cases e
  · cases e
def rLen (neg : Bool) (K : PySem.W.Frag) : R2 := fun x y H Q => ∃ μ ah dx dy b, Sim K μ H ah ∧ Rep K μ H dx x ∧ Rep K μ H dy y ∧ eqLen ah dx dy = some b ∧ Q (.bl (if neg = true then !b else b)) H
theorem op_eqLen (hu : X.A.units + 64 < cLine) : OpR X (compareOp .Eq) (rLen false X.K) := by
  intro pins s σ H x y v u Q I rx ry ⟨μ, ah, dx, dy, b, S, r1, r2, e, q⟩
  exact (eqLen_at I S r1 r2 rx ry e (by omega)).1 _ _ _ _ ⟨.bl b, H, I, rfl, q⟩
theorem op_neLen (hu : X.A.units + 64 < cLine) : OpR X (compareOp .NotEq) (rLen true X.K) := by
  intro pins s σ H x y v u Q I rx ry ⟨μ, ah, dx, dy, b, S, r1, r2, e, q⟩
  exact (eqLen_at I S r1 r2 rx ry e (by omega)).2 _ _ _ _ ⟨.bl (!b), H, I, rfl, q⟩
theorem od_eq (hr : Rm k X.A) : OpD X RBV (compareOp .Eq) cEq := fun Wx => by
  refine OpR.imp ((op_eq.or (op_eqS hr.u64)).or (op_eqLen hr.u64)) fun x y H Q ⟨μ, ah, dx, dy, S, rx, ry, hp⟩ => ?_
  unfold cEq at hp
  split at hp
  · rw [d_int rx, d_int ry]; exact .inl (.inl (rEq_scal rfl (by simp) hp S))
  · rw [d_str rx, d_str ry]; exact .inl (.inl (rEq_scal rfl (by simp) hp S))
  · rw [d_bl rx, d_bl ry]; exact .inl (.inl (rEq_scal rfl (by simp) hp S))
  · split at hp
    · rename_i b e
      exact .inl (.inr ⟨μ, ah, dx, dy, b, S, rx, ry, e, hp.ok1 S rfl⟩)
    · split at hp
      · rename_i b e
        exact .inr ⟨μ, ah, dx, dy, b, S, rx, ry, e, hp.ok1 S rfl⟩
      · exact hp.elim
theorem od_ne (hr : Rm k X.A) : OpD X RBV (compareOp .NotEq) cNe := fun Wx => by
  refine OpR.imp ((op_ne.or (op_neS hr.u64)).or (op_neLen hr.u64)) fun x y H Q ⟨μ, ah, dx, dy, S, rx, ry, hp⟩ => ?_
  unfold cNe cEq at hp
  split at hp
  · rw [d_int rx, d_int ry]; exact .inl (.inl ⟨rfl, Post.ok1 (R := RBV) hp S (by show _ = _; simp)⟩)
  · rw [d_str rx, d_str ry]; exact .inl (.inl ⟨rfl, Post.ok1 (R := RBV) hp S (by show _ = _; simp)⟩)
  · rw [d_bl rx, d_bl ry]; exact .inl (.inl ⟨rfl, Post.ok1 (R := RBV) hp S (by show _ = _; simp)⟩)
  · split at hp
    · rename_i b e
      exact .inl (.inr ⟨μ, ah, dx, dy, b, S, rx, ry, e, Post.ok1 (R := RBV) hp S rfl⟩)
    · split at hp
      · rename_i b e
        exact .inr ⟨μ, ah, dx, dy, b, S, rx, ry, e, Post.ok1 (R := RBV) hp S rfl⟩
      · exact hp.elim
def cLt : D → D → AH → Res Bool
  | .int i, .int j, ah => .ok (decide (i < j)) ah
  | .str a, .str b, ah => .ok (decide (a.cps.toList < b.cps.toList)) ah
  | _, _, _ => .stuck
def cLe : D → D → AH → Res Bool
  | .int i, .int j, ah => .ok (decide (i ≤ j)) ah
  | _, _, _ => .stuck
def cGt : D → D → AH → Res Bool
  | .int i, .int j, ah => .ok (decide (j < i)) ah
  | _, _, _ => .stuck
def cGe : D → D → AH → Res Bool
  | .int i, .int j, ah => .ok (decide (j ≤ i)) ah
  | _, _, _ => .stuck
theorem od_ge : OpD X RBV (compareOp .GtE) cGe := fun Wx => by
  refine OpR.imp op_ge fun x y H Q ⟨μ, ah, dx, dy, S, rx, ry, hp⟩ => ?_
  unfold cGe at hp
  split at hp
  · rw [d_int rx, d_int ry]; exact ⟨_, _, rfl, rfl, hp.ok1 S rfl⟩
  · exact hp.elim
def strIn (x y : Str) : Bool := !(Builtin.Str.occurrences y x 0 y.length 1).isEmpty
def dKey : D → Option Key
  | .int i => some (.inl i)
  | .str x => some (.inr x)
  | _ => none
def inData (ah : AH) (x : D) (ds : List D) : Option Bool := match pd ah x, optAll (toP ah 62) ds with
  | some p, some ps => if SeqAt.shaped p = true ∧ PyData.canLayAll0 ps = true then some (ps.any fun z => PyData.eqv z p) else none
  | _, _ => none
def cIn : D → D → AH → Res Bool
  | .str a, .str b, ah => .ok (strIn a b) ah
  | x, .tup ds, ah => match inData ah x ds with
    | some b => .ok b ah
    | none => .stuck
  | x, .ref n, ah => match ah[n]? with
    | some (.dK kvs) => match dKey x with
      | some k => .ok (kvs.any fun kv => decide (kv.1 = k)) ah
      | none => .stuck
    | some (.lst ds) => match inData ah x ds with
      | some b => .ok b ah
      | none => .stuck
    | _ => .stuck
  | _, _, _ => .stuck
def cNotIn (x y : D) (ah : AH) : Res Bool := (cIn x y ah).bind fun b ah => .ok (!b) ah
def inAsk (neg : Bool) (K : PySem.W.Frag) : R2 := fun x y H Q => ∃ μ ah dx dy ds b, Sim K μ H ah ∧ Rep K μ H dx x ∧ Rep K μ H dy y ∧ (dy = .tup ds ∨ ∃ n, dy = .ref n ∧ ah[n]? = some (.lst ds)) ∧ inData ah dx ds = some b ∧ Q (.bl (if neg then !b else b)) H
theorem inData_sr {pins : List (Addr × Obj)} {σ : L2.St} {H : Hp} {s : Shared} {μ : List Addr} {ah : AH} {dx dy : D} {ds : List D} {x y : V} {v u : Value} {b : Bool} (I : Inv X pins σ H s) (S : Sim X.K μ H ah) (r1 : Rep X.K μ H dx x) (r2 : Rep X.K μ H dy y)
    (rx : RelV x v) (ry : RelV y u) (hd : dy = .tup ds ∨ ∃ n, dy = .ref n ∧ ah[n]? = some (.lst ds)) (e : inData ah dx ds = some b) :
    ∃ p ps as bs, Reads s.heap v p as ∧ (Reads s.heap u (.tuple ps) bs ∨ Reads s.heap u (.list ps) bs) ∧ SeqAt.shaped p = true ∧ PyData.canLayAll0 ps = true ∧ b = ps.any fun z => PyData.eqv z p := by
  unfold inData at e
  split at e
  · rename_i p ps e1 e2
    split at e
    · rename_i hs
      cases e
      obtain ⟨as, q1⟩ := (Inv.sr I S deep dx x v p e1 r1 rx).reads
      rcases hd with rfl | ⟨n, rfl, en⟩
      · obtain ⟨bs, q2⟩ := (Inv.sr I S deep (.tup ds) y u (.tuple ps) (by unfold deep toP; simp only [e2, Option.map_some]) r2 ry).reads
        exact ⟨p, ps, as, bs, q1, .inl q2, hs.1, hs.2, rfl⟩
      · obtain ⟨bs, q2⟩ := (Inv.sr I S deep (.ref n) y u (.list ps) (by unfold deep toP; simp only [en, e2, Option.map_some]) r2 ry).reads
        exact ⟨p, ps, as, bs, q1, .inr q2, hs.1, hs.2, rfl⟩
    · cases e
  · cases e
theorem op_inS (hu : X.A.units + 65 < cLine) : OpR X (compareOp .In) (inAsk false X.K) := by
  intro pins s σ H x y v u Q I rx ry ⟨μ, ah, dx, dy, ds, b, S, r1, r2, hd, e, q⟩
  obtain ⟨p, ps, as, bs, q1, q2, c1, c2, rfl⟩ := inData_sr I S r1 r2 rx ry hd e
  rcases q2 with q2 | q2
  · exact SeqAt.in_tuple_reads q2 q1 c2 (SeqAt.canLay_of_shaped c1) (room_in_shaped c1 hu) ⟨.bl _, H, I, rfl, q⟩
  · exact SeqAt.in_list_reads q2 q1 c2 (SeqAt.canLay_of_shaped c1) (room_in_shaped c1 hu) ⟨.bl _, H, I, rfl, q⟩
theorem op_notInS (hu : X.A.units + 65 < cLine) : OpR X (compareOp .NotIn) (inAsk true X.K) := by
  intro pins s σ H x y v u Q I rx ry ⟨μ, ah, dx, dy, ds, b, S, r1, r2, hd, e, q⟩
  obtain ⟨p, ps, as, bs, q1, q2, c1, c2, rfl⟩ := inData_sr I S r1 r2 rx ry hd e
  rcases q2 with q2 | q2
  · exact SeqAt.notIn_tuple_reads q2 q1 c2 (SeqAt.canLay_of_shaped c1) (room_in_shaped c1 hu) ⟨.bl _, H, I, rfl, q⟩
  · exact SeqAt.notIn_list_reads q2 q1 c2 (SeqAt.canLay_of_shaped c1) (room_in_shaped c1 hu) ⟨.bl _, H, I, rfl, q⟩
theorem dKey_v {K : PySem.W.Frag} {μ : List Addr} {H : Hp} {d : D} {v : V} {k : Key} (h : dKey d = some k) (r : Rep K μ H d v) : v = kV k := by
  cases d <;> simp only [dKey, Option.some.injEq] at h <;> first | (subst h; first | exact d_int r | exact d_str r) | cases h
theorem dK_any {kvs : List (Key × D)} {kws : List (Key × V)} (h : kvs.map (·.1) = kws.map (·.1)) (k : Key) : (kvs.any fun kv => decide (kv.1 = k)) = (valV kws k).isSome := by
  rw [← valV_any]
  have e1 : (kvs.any fun kv => decide (kv.1 = k)) = (kvs.map (·.1)).any fun x => decide (x = k) := by rw [List.any_map]; rfl
  have e2 : (kws.any fun kv => decide (kv.1 = k)) = (kws.map (·.1)).any fun x => decide (x = k) := by rw [List.any_map]; rfl
  rw [e1, e2, h]
theorem op_inDict (hu : X.A.units + 1 < cLine) : OpR X (compareOp .In) (fun x y H Q => ∃ a kvs k, y = .ref a ∧ H a = some (.dK kvs) ∧ x = kV k ∧ Q (.bl (valV kvs k).isSome) H) := by
  intro pins s σ H x y v u Q I rx ry hx
  obtain ⟨a, kvs, k, rfl, e, rfl, q⟩ := hx
  cases ry
  exact d_in hu I (DGet.k e) rx fun s' I' => ⟨.bl _, H, I', rfl, q⟩
theorem op_notInDict (hu : X.A.units + 1 < cLine) : OpR X (compareOp .NotIn) (fun x y H Q => ∃ a kvs k, y = .ref a ∧ H a = some (.dK kvs) ∧ x = kV k ∧ Q (.bl (!(valV kvs k).isSome)) H) := by
  intro pins s σ H x y v u Q I rx ry hx
  obtain ⟨a, kvs, k, rfl, e, rfl, q⟩ := hx
  cases ry
  exact d_notIn hu I (DGet.k e) rx fun s' I' => ⟨.bl _, H, I', rfl, q⟩
theorem od_in (hr : Rm k X.A) : OpD X RBV (compareOp .In) cIn := fun Wx => by
  refine OpR.imp (op_in_str.or ((op_inS hr.u65).or (op_inDict hr.u1))) fun x y H Q ⟨μ, ah, dx, dy, S, rx, ry, hp⟩ => ?_
  unfold cIn at hp
  split at hp
  · rw [d_str rx, d_str ry]; exact .inl ⟨_, _, rfl, rfl, hp.ok1 S rfl⟩
  · split at hp
    · rename_i b e
      exact .inr (.inl ⟨μ, ah, dx, _, _, b, S, rx, ry, .inl rfl, e, hp.ok1 S rfl⟩)
    · exact hp.elim
  · split at hp
    · rename_i kvs e
      split at hp
      · rename_i kk ek
        obtain ⟨a, ea, rfl⟩ := d_ref ry
        obtain ⟨kws, e0, e1, _⟩ := S.ok _ a _ ea e
        refine .inr (.inr ⟨a, kws, kk, rfl, e0, dKey_v ek rx, hp.ok1 S ?_⟩)
        rw [dK_any e1]; rfl
      · exact hp.elim
    · rename_i ds e
      split at hp
      · rename_i b e'
        exact .inr (.inl ⟨μ, ah, dx, _, _, b, S, rx, ry, .inr ⟨_, rfl, e⟩, e', hp.ok1 S rfl⟩)
      · exact hp.elim
    · exact hp.elim
  · exact hp.elim
theorem od_notIn (hr : Rm k X.A) : OpD X RBV (compareOp .NotIn) cNotIn := fun Wx => by
  refine OpR.imp (op_notIn_str.or ((op_notInS hr.u65).or (op_notInDict hr.u1))) fun x y H Q ⟨μ, ah, dx, dy, S, rx, ry, hp⟩ => ?_
  unfold cNotIn cIn at hp
  split at hp
  · rw [d_str rx, d_str ry]; exact .inl ⟨_, _, rfl, rfl, Post.ok1 (R := RBV) hp S rfl⟩
  · split at hp
    · rename_i b e
      exact .inr (.inl ⟨μ, ah, dx, _, _, b, S, rx, ry, .inl rfl, e, Post.ok1 (R := RBV) hp S rfl⟩)
    · exact hp.elim
  · split at hp
    · rename_i kvs e
      split at hp
      · rename_i kk ek
        obtain ⟨a, ea, rfl⟩ := d_ref ry
        obtain ⟨kws, e0, e1, _⟩ := S.ok _ a _ ea e
        refine .inr (.inr ⟨a, kws, kk, rfl, e0, dKey_v ek rx, Post.ok1 (R := RBV) hp S ?_⟩)
        show _ = _
        rw [dK_any e1]
      · exact hp.elim
    · rename_i ds e
      split at hp
      · rename_i b e'
        exact .inr (.inl ⟨μ, ah, dx, _, _, b, S, rx, ry, .inr ⟨_, rfl, e⟩, e', Post.ok1 (R := RBV) hp S rfl⟩)
      · exact hp.elim
    · exact hp.elim
  · exact hp.elim
def D.isNon : D → Bool
  | .non => true
  | .cst w => decide (w = .non)
  | _ => false
def cIs : D → D → AH → Res Bool
  | .bl a, .bl b, ah => .ok (decide (a = b)) ah
  | x, .non, ah => .ok x.isNon ah
  | _, _, _ => .stuck
def cIsNot (x y : D) (ah : AH) : Res Bool := (cIs x y ah).bind fun b ah => .ok (!b) ah
def truth (d : D) (ah : AH) : Res Bool := match d with
  | .non => .ok false ah
  | .bl b => .ok b ah
  | .int i => .ok (i != 0) ah
  | .str x => if x.length ≤ line then .ok ((x.length : Int) != 0) ah else .stuck
  | .tup ds => .ok (!ds.isEmpty) ah
  | .ref n => match ah[n]? with
    | some (.lst ds) => .ok (!ds.isEmpty) ah
    | some (.ro ds) => .ok (!ds.isEmpty) ah
    | some (.dK kvs) => .ok (!kvs.isEmpty) ah
    | _ => .stuck
  | .cst _ => .stuck
  | .glo _ => .stuck
  | .xv _ _ _ _ => .stuck
theorem isEmpty_len {α β : Type} {a : List α} {b : List β} (h : a.length = b.length) : a.isEmpty = b.isEmpty := by
  cases a <;> cases b <;> simp_all
theorem truth_v {K : PySem.W.Frag} {Wx : Value → Option Addr → Hp → Prop} {μ : List Addr} {H : Hp} {Q : Bool → Hp → Prop} {d : D} {v : V} {ah : AH} (S : Sim K μ H ah) (r : Rep K μ H d v) (hp : Post K RB Wx μ H Q (truth d ah)) : ∃ k, TruV K v H k ∧ Q k H := by
  cases d with
  | non => rw [d_non r]; exact ⟨_, rfl, hp.ok1 S rfl⟩
  | bl b => rw [d_bl r]; exact ⟨_, rfl, hp.ok1 S rfl⟩
  | int i => rw [d_int r]; exact ⟨_, rfl, hp.ok1 S rfl⟩
  | str x =>
    rw [d_str r]
    unfold truth at hp
    dsimp only at hp
    split at hp
    · rename_i hl
      exact ⟨_, ⟨line_le hl, rfl⟩, hp.ok1 S rfl⟩
    · exact hp.elim
  | tup ds =>
    obtain ⟨a, vs, rfl, q, r2⟩ := d_tup r
    exact ⟨_, .inr (.inl ⟨vs, q, by rw [isEmpty_len r2.length]⟩), hp.ok1 S rfl⟩
  | ref n =>
    obtain ⟨a, ea, rfl⟩ := d_ref r
    unfold truth at hp
    dsimp only at hp
    split at hp
    · rename_i ds e
      obtain ⟨b, vs, eb, q, r2⟩ := S.list (show listAt ah n = some ds by unfold listAt; rw [e])
      rw [ea] at eb; cases eb
      exact ⟨_, .inl ⟨vs, q, by rw [isEmpty_len r2.length]⟩, hp.ok1 S rfl⟩
    · rename_i ds e
      obtain ⟨b, vs, eb, q, r2⟩ := S.list (show listAt ah n = some ds by unfold listAt; rw [e])
      rw [ea] at eb; cases eb
      exact ⟨_, .inl ⟨vs, q, by rw [isEmpty_len r2.length]⟩, hp.ok1 S rfl⟩
    · rename_i kvs e
      obtain ⟨kws, e0, e1, _⟩ := S.ok n a _ ea e
      exact ⟨_, .inr (.inr ⟨kws, e0, by rw [isEmpty_len (by simpa using congrArg List.length e1)]⟩), hp.ok1 S rfl⟩
    · exact hp.elim
  | cst w => exact hp.elim
  | glo w => exact hp.elim
  | xv a d ks ds => exact hp.elim
theorem pb_val {e : Expr} {m : EM D} (h : PD X W e m) (he : ∀ whole, isTrue e X.env whole = (do let v ← whole; standAt e.pos; holding [v] (truthy v)) := by intro _; rfl) : PB X W e (e1 m truth) := by
  refine PT.weak (pt_truth h he) fun σ H Q ⟨μ, env, ah, he, hs, hp⟩ => ?_
  exact ⟨μ, env, ah, he, hs, hp.bind fun d ah1 μ1 x H1 e1 s1 r1 p1 => truth_v s1 r1 p1⟩
def bAnd (a b : EM Bool) : EM Bool := fun env ah => (a env ah).bind fun x ah1 => if x = true then b env ah1 else .ok false ah1
def bOr (a b : EM Bool) : EM Bool := fun env ah => (a env ah).bind fun x ah1 => if x = true then .ok true ah1 else b env ah1
def bNot (a : EM Bool) : EM Bool := fun env ah => (a env ah).bind fun x ah1 => .ok (!x) ah1
variable {a b : Expr} {rest : List Expr} {ma mb : EM Bool} {pos : Pos}
theorem pbw_and1 (ha : PB X W a ma) : PBw X W (.BoolOp .And [a] pos) ma := pw_and1 ha
theorem pbw_or1 (ha : PB X W a ma) : PBw X W (.BoolOp .Or [a] pos) ma := pw_or1 ha
theorem pbw_and (ha : PB X W a ma) (hb : PBw X W (.BoolOp .And (b :: rest) pos) mb) : PBw X W (.BoolOp .And (a :: b :: rest) pos) (bAnd ma mb) := by
  refine PW.weak (pw_and ha hb) fun σ H Q ⟨μ, env, ah, he, hs, hp⟩ => ?_
  refine ⟨μ, env, ah, he, hs, hp.bind fun d ah1 μ1 x H1 e1 s1 r1 p1 => ?_⟩
  cases (show d = x from r1)
  cases d with
  | true => exact tG_next he e1 s1 p1
  | false => exact Post.ok1 (R := RB) p1 s1 rfl
theorem pbw_or (ha : PB X W a ma) (hb : PBw X W (.BoolOp .Or (b :: rest) pos) mb) : PBw X W (.BoolOp .Or (a :: b :: rest) pos) (bOr ma mb) := by
  refine PW.weak (pw_or ha hb) fun σ H Q ⟨μ, env, ah, he, hs, hp⟩ => ?_
  refine ⟨μ, env, ah, he, hs, hp.bind fun d ah1 μ1 x H1 e1 s1 r1 p1 => ?_⟩
  cases (show d = x from r1)
  cases d with
  | true => exact Post.ok1 (R := RB) p1 s1 rfl
  | false => exact tG_next he e1 s1 p1
theorem pbw {e : Expr} {m : EM Bool} (h : PBw X W e m) : PB X W e m := PW.pt h
theorem pb_not (ha : PB X W a ma) : PB X W (.UnaryOp .Not a pos) (bNot ma) := by
  refine PT.weak (pt_not ha) fun σ H Q ⟨μ, env, ah, he, hs, hp⟩ => ?_
  refine ⟨μ, env, ah, he, hs, hp.bind fun d ah1 μ1 x H1 e1 s1 r1 p1 => ?_⟩
  cases (show d = x from r1)
  exact Post.ok1 (R := RB) p1 s1 rfl
def eAnd (a : EM D) (b : EM D) : EM D := fun env ah => (a env ah).bind fun x ah1 => (truth x ah1).bind fun k ah2 => if k = true then b env ah2 else .ok x ah2
def eOr (a : EM D) (b : EM D) : EM D := fun env ah => (a env ah).bind fun x ah1 => (truth x ah1).bind fun k ah2 => if k = true then .ok x ah2 else b env ah2
def eNot (a : EM D) : EM D := fun env ah => (a env ah).bind fun x ah1 => (truth x ah1).bind fun k ah2 => .ok (.bl (!k)) ah2
variable {na nb : EM D}
theorem truth_same {d : D} {ah : AH} : (∃ k, truth d ah = .ok k ah) ∨ truth d ah = .stuck := by
  unfold truth
  split <;> first | exact .inl ⟨_, rfl⟩ | exact .inr rfl | skip
  · split <;> first | exact .inl ⟨_, rfl⟩ | exact .inr rfl
  · split <;> first | exact .inl ⟨_, rfl⟩ | exact .inr rfl
theorem truth_tru {K : PySem.W.Frag} {μ : List Addr} {H : Hp} {d : D} {v : V} {ah : AH} {k : Bool} (S : Sim K μ H ah) (r : Rep K μ H d v) (e : truth d ah = .ok k ah) : TruV K v H k := by
  have h : Post K RB (fun _ _ _ => False) μ H (fun c H' => c = k ∧ True) (truth d ah) := by
    rw [e]
    exact fun μ' x H' _ _ r => ⟨(show k = x from r).symm, trivial⟩
  obtain ⟨c, t, q, _⟩ := truth_v S r h
  rw [← q]; exact t
theorem pd_one {op} {m : EM D} (h : PD X W a m) : PD X W (.BoolOp op [a] pos) m := pe_one h
theorem pd_and (ha : PD X W a na) (hb : PD X W (.BoolOp .And (b :: rest) pos) nb) : PD X W (.BoolOp .And (a :: b :: rest) pos) (eAnd na nb) := by
  refine PE.weak (pe_andT ha hb) fun σ H Q ⟨μ, env, ah, he, hs, hp⟩ => ?_
  refine ⟨μ, env, ah, he, hs, hp.bind fun d ah1 μ1 x H1 e1 s1 r1 p1 => ?_⟩
  rcases truth_same (d := d) (ah := ah1) with ⟨k, e⟩ | e
  · rw [e] at p1
    refine ⟨k, truth_tru s1 r1 e, ?_⟩
    cases k with
    | true => exact tG_next he e1 s1 p1
    | false => exact Post.ok1 (R := RD X.K) p1 s1 r1
  · rw [e] at p1; exact p1.elim
def eIf {α : Type} (c : EM Bool) (a b : EM α) : EM α := fun env ah => (c env ah).bind fun x ah1 => if x = true then a env ah1 else b env ah1
def oNeg : D → AH → Res D
  | .int i, ah => .ok (.int (-i)) ah
  | _, _ => .stuck
def aNil : EM (List D) := fun _ ah => .ok [] ah
def aCons (m : EM D) (r : EM (List D)) : EM (List D) := fun env ah => (m env ah).bind fun x ah1 => (r env ah1).bind fun xs ah2 => .ok (x :: xs) ah2
variable {e : Expr} {es : List Expr} {me : EM D} {mes : EM (List D)}
theorem pas_nil : PAs X W [] aNil := PA.weak pa_nil fun σ H Q ⟨μ, env, ah, he, hs, hp⟩ => Post.ok1 (R := RA X.K) hp hs (show Reps X.K μ H [] [] from Reps.nil)
theorem Post.cons {K : PySem.W.Frag} {Wx : Value → Option Addr → Hp → Prop} {μ : List Addr} {H : Hp} {x : V} {d : D} {Q : List V → Hp → Prop} {r : Res (List D)} (rx : Rep K μ H d x) (h : Post K (RA K) Wx μ H Q (r.bind fun xs ah2 => .ok (d :: xs) ah2)) : Post K (RA K) Wx μ H (fun xs H' => Q (x :: xs) H') r := by
  cases r with
  | ok ds ah => exact fun μ' xs H' e s rr => h μ' (x :: xs) H' e s (Reps.cons (rx.ext e) rr)
  | exn c fs ah => exact h
  | stuck => exact h
theorem pas_cons (ha : PD X W e me) (hr : PAs X W es mes) (hs : starEach (e :: es) X.env = (false, eval e X.env) :: starEach es X.env := by rfl) : PAs X W (e :: es) (aCons me mes) := by
  refine PA.weak (pa_cons ha hr hs) fun σ H Q ⟨μ, env, ah, he, hs, hp⟩ => ?_
  refine ⟨μ, env, ah, he, hs, hp.bind fun d ah1 μ1 x H1 e1 s1 r1 p1 => ?_⟩
  exact tG_next he e1 s1 (Post.cons r1 p1)
def eTup (m : EM (List D)) : EM D := e1 m fun ds ah => if ds.length ≤ line then .ok (.tup ds) ah else .stuck
theorem pd_tup {x1} (h : PAs X W es mes) : PD X W (.Tuple es x1 pos) (eTup mes) := by
  refine PE.weak (pe_tup h) fun σ H Q ⟨μ, env, ah, he, hs, hp⟩ => ?_
  refine ⟨μ, env, ah, he, hs, hp.bind fun ds ah1 μ1 vs H1 e1 s1 r1 p1 => ?_⟩
  have r : Reps X.K μ1 H1 ds vs := r1
  dsimp only at p1
  split at p1
  · rename_i hl
    exact ⟨line_le (by rw [← r.length]; exact hl), fun p hp => p1.newT s1 r hp⟩
  · exact p1.elim
def lLst (m : EM (List D)) : EM (List D) := e1 m fun ds ah => if ds.length ≤ line then .ok ds ah else .stuck
end
end HA
namespace HA
open PySem PySem.Spec PyProof.Rows L2
theorem Sim.adopt {K : PySem.W.Frag} {μ : List Addr} {H : Hp} {ah : AH} (S : Sim K μ H ah) {a : Addr} {o : AObj} (hr : o.isRo = false) (ha : a ∉ μ.tail) (h : OOk K (μ ++ [a]) H a o) : Sim K (μ ++ [a]) H (ah ++ [o]) := by
  have key : ∀ (n : Nat) (b : Addr) (q : AObj), (μ ++ [a])[n]? = some b → (ah ++ [o])[n]? = some q → (μ[n]? = some b ∧ ah[n]? = some q) ∨ (n = ah.length ∧ b = a ∧ q = o) := fun n b q e1 e2 => by
    by_cases hn : n < ah.length
    · rw [List.getElem?_append_left (by rw [S.len]; exact hn)] at e1
      rw [List.getElem?_append_left hn] at e2
      exact .inl ⟨e1, e2⟩
    · have hn' : n < (ah ++ [o]).length := (List.getElem?_eq_some_iff.mp e2).1
      have : n = ah.length := by simp at hn'; omega
      subst this
      rw [List.getElem?_append_right (by rw [S.len]; omega)] at e1
      rw [List.getElem?_append_right (Nat.le_refl _)] at e2
      rw [S.len] at e1
      simp at e1 e2
      exact .inr ⟨rfl, e1.symm, e2.symm⟩
  have tl : ∀ (n : Nat) (q : AObj), μ[n]? = some a → ah[n]? = some q → q.isRo = false → False := fun n q e1 e2 r => by
    have hn : n ≠ 0 := fun z => by
      have := (S.ro0 n q e2).mpr z
      rw [r] at this; cases this
    obtain ⟨k, rfl⟩ : ∃ k, n = k + 1 := ⟨n - 1, by omega⟩
    exact ha (List.mem_of_getElem? (i := k) (by rw [List.getElem?_tail]; exact e1))
  refine ⟨by simp [S.len], fun n m b q q' e1 e2 e3 e4 r1 r2 => ?_, fun n b q e1 e2 => ?_, by simp, fun n q e => ?_⟩
  · rcases key n b q e1 e3 with ⟨x1, x2⟩ | ⟨x1, x2, x3⟩
    · rcases key m b q' e2 e4 with ⟨y1, y2⟩ | ⟨y1, y2, y3⟩
      · exact S.nd n m b q q' x1 y1 x2 y2 r1 r2
      · subst y2; exact (tl n q x1 x2 r1).elim
    · rcases key m b q' e2 e4 with ⟨y1, y2⟩ | ⟨y1, y2, y3⟩
      · subst x2; exact (tl m q' y1 y2 r2).elim
      · rw [x1, y1]
  · rcases key n b q e1 e2 with ⟨x1, x2⟩ | ⟨x1, x2, x3⟩
    · exact (S.ok n b q x1 x2).mono (List.prefix_append _ _) TExt.refl (fun _ => rfl) fun _ _ z => z
    · rw [x2, x3]; exact h
  · by_cases hn : n < ah.length
    · rw [List.getElem?_append_left hn] at e
      exact S.ro0 n q e
    · have hn' : n < (ah ++ [o]).length := (List.getElem?_eq_some_iff.mp e).1
      have : n = ah.length := by simp at hn'; omega
      subst this
      rw [List.getElem?_append_right (Nat.le_refl _)] at e
      simp at e
      subst e
      have := S.pos
      constructor
      · intro z; rw [hr] at z; cases z
      · intro z; omega
theorem Ext.adopt {K : PySem.W.Frag} {μ μ1 : List Addr} {H H1 : Hp} {a : Addr} (e : Ext K μ H μ1 H1) (h0 : H a = none) (hp : 0 < μ1.length) : Ext K μ H (μ1 ++ [a]) H1 :=
  ⟨e.pre.trans (List.prefix_append _ _), e.tup, fun b hb => by
    rw [List.tail_append_of_ne_nil (by intro z; rw [z] at hp; exact absurd hp (by decide))] at hb
    rcases List.mem_append.mp hb with z | z
    · exact e.new b z
    · simp at z; rw [z]; exact .inr h0, e.keep, e.there⟩
theorem Sim.mpos {K : PySem.W.Frag} {μ : List Addr} {H : Hp} {ah : AH} (S : Sim K μ H ah) : 0 < μ.length := by rw [S.len]; exact S.pos
def RM (K : PySem.W.Frag) : Rel (List D) V := ⟨fun _ μ H ds v => ∃ a vs, v = .ref a ∧ SqL K H a vs ∧ Reps K μ H ds vs, fun _ h => h⟩
def PM (X : Cx) (W : WX) (e : Expr) (m : EM (List D)) : Prop := PE X e (tG X.K (RM X.K) W m)
section
variable {X : Cx} {W : WX} {k : Nat} {e : Expr} {es : List Expr} {m : EM D} {ml : EM (List D)} {pos : Pos}
theorem tG_rel {β γ : Type} {K : PySem.W.Frag} {R R' : Rel β γ} {mm : EM β} {σ : L2.St} {H : Hp} {Q : γ → Hp → Prop} (h : tG K R' W mm σ H Q) (k : ∀ H₀ μ H b c, R.r H₀ μ H b c → R'.r H₀ μ H b c) : tG K R W mm σ H Q := by
  obtain ⟨μ, env, ah, he, hs, hp⟩ := h
  refine ⟨μ, env, ah, he, hs, ?_⟩
  cases q : mm env ah with
  | ok d ah' => rw [q] at hp; exact fun μ' x H' e s r => hp μ' x H' e s (k _ _ _ _ _ r)
  | exn c fs ah' => rw [q] at hp; exact hp
  | stuck => rw [q] at hp; exact hp
theorem pm_l (h : PL X W e ml) : PM X W e ml := PE.weak h fun σ H Q q => tG_rel q fun _ _ _ _ _ ⟨a, vs, e, _, z, _, r⟩ => ⟨a, vs, e, SqL.of z, r⟩
theorem pq_m (h : PM X W e ml) : PQ X W e ml := PE.weak h fun σ H Q q => tG_rel q fun _ _ _ _ _ ⟨a, vs, e, z, r⟩ => ⟨a, vs, e, .inl z, r⟩
theorem pq_l (h : PL X W e ml) : PQ X W e ml := pq_m (pm_l h)
def listOf (d : D) (ah : AH) : Res (List D) := match d with
  | .ref n => match listAt ah n with
    | some ds => .ok ds ah
    | none => .stuck
  | _ => .stuck
def seqOf (d : D) (ah : AH) : Res (List D) := match d with
  | .tup ds => .ok ds ah
  | .ref n => match listAt ah n with
    | some ds => .ok ds ah
    | none => .stuck
  | _ => .stuck
theorem pm_d (h : PD X W e m) : PM X W e (e1 m listOf) := by
  refine PE.weak h fun σ H Q ⟨μ, env, ah, he, hs, hp⟩ => ?_
  refine ⟨μ, env, ah, he, hs, hp.bind fun d ah1 μ1 x H1 e1 s1 r1 p1 => ?_⟩
  cases d with
  | ref n =>
    obtain ⟨a, ea, rfl⟩ := d_ref (show Rep X.K μ1 H1 (.ref n) x from r1)
    unfold listOf at p1
    dsimp only at p1
    split at p1
    · rename_i ds e
      obtain ⟨b, vs, eb, q, r2⟩ := s1.list e
      rw [ea] at eb; cases eb
      exact Post.ok1 (R := RM X.K) p1 s1 ⟨a, vs, rfl, q, r2⟩
    · exact p1.elim
  | _ => exact p1.elim
def eNew (m : EM (List D)) : EM D := e1 m fun ds ah => .ok (.ref ah.length) (ah ++ [.lst ds])
theorem pd_new (h : PL X W e ml) : PD X W e (eNew ml) := by
  refine PE.weak h fun σ H Q ⟨μ, env, ah, he, hs, hp⟩ => ?_
  refine ⟨μ, env, ah, he, hs, hp.bind0 fun ds ah1 μ1 x H1 e1 s1 r1 p1 => ?_⟩
  obtain ⟨a, vs, rfl, h0, ha, hm, r⟩ := r1
  refine p1 (μ1 ++ [a]) (.ref a) H1 (e1.adopt h0 s1.mpos) (s1.adopt rfl hm ⟨vs, ha, Reps.mono (List.prefix_append _ _) TExt.refl ds vs r⟩) ?_
  show Rep _ _ _ _ _
  simp only [Rep]
  exact ⟨a, by rw [← s1.len]; simp, rfl⟩
theorem pl_lst (h : PAs X W es ml) : PL X W (.List es pos) (lLst ml) := by
  refine PE.weak (pe_lst h) fun σ H Q ⟨μ, env, ah, he, hs, hp⟩ => ?_
  refine ⟨μ, env, ah, he, hs, hp.bind0 fun ds ah1 μ1 vs H1 e1 s1 r1 p1 => ?_⟩
  have r : Reps X.K μ1 H1 ds vs := r1
  dsimp only at p1
  split at p1
  · rename_i hl
    refine ⟨line_le (by rw [← r.length]; exact hl), fun p hp => ?_⟩
    exact p1 μ1 _ _ (e1.trans (Ext.other hp)) (s1.other hp) ⟨p, vs, rfl, e1.there p hp, upd_same, s1.free hp, r.ext (Ext.other hp)⟩
  · exact p1.elim
def CallD (X : Cx) {γ : Type} (R : Rel γ V) (F : Value) (f : List D → AH → Res γ) : Prop := ∀ W, CallR X F (fun vs H Q => ∃ μ ah ds, Sim X.K μ H ah ∧ Reps X.K μ H ds vs ∧ Post X.K R W μ H Q (f ds ah))
theorem CallR.imp {F : Value} {r r' : List V → Hp → VK → Prop} (h : CallR X F r) (k : ∀ vs H Q, r' vs H Q → r vs H Q) : CallR X F r' := fun pins s σ H xs us Q I rv q => h pins s σ H xs us Q I rv (k xs H Q q)
theorem CallR.or {F : Value} {r r' : List V → Hp → VK → Prop} (h : CallR X F r) (h' : CallR X F r') : CallR X F (fun vs H Q => r vs H Q ∨ r' vs H Q) := fun pins s σ H xs us Q I rv q => q.elim (h pins s σ H xs us Q I rv) (h' pins s σ H xs us Q I rv)
theorem pe_callBσ {x : Str} {p : Pos} {id : String} {r : L2.St → List V → Hp → VK → Prop} {t : TA} (hc : ∀ σ, CallR X (.builtin id) (r σ)) (hg : Gl X x) (hm : X.mg x = none) (hv : bootBuiltins x = some (.builtin id)) (ha : PA X (e :: es) t) (hn : x ≠ "__name__" := by decide) (hdb : (x == ("__debug__" : Str)) = false := by decide)
    (he : starEach (e :: es) X.env = (false, eval e X.env) :: starEach es X.env := by rfl) (hpl : (backTo pos (starEach es X.env)).any (·.1) = false := by rfl) : PE X (.Call (.Name x p) (e :: es) [] pos) (fun σ H Q => tCB (r σ) t σ H Q) :=
  ⟨fun pins s σ H Q I h => (pe_callB (hc σ) hg hm hv ha hn hdb he hpl).run pins s σ H Q I h⟩
theorem pe_callTyσ {x : Str} {p : Pos} {T : String} {r : L2.St → List V → Hp → VK → Prop} {t : TA} (hc : ∀ σ, CallR X (.type T) (r σ)) (hg : Gl X x) (hm : X.mg x = none) (hv : bootBuiltins x = some (.type T)) (ha : PA X (e :: es) t) (hn : x ≠ "__name__" := by decide) (hdb : (x == ("__debug__" : Str)) = false := by decide)
    (he : starEach (e :: es) X.env = (false, eval e X.env) :: starEach es X.env := by rfl) (hpl : (backTo pos (starEach es X.env)).any (·.1) = false := by rfl) : PE X (.Call (.Name x p) (e :: es) [] pos) (fun σ H Q => tCB (r σ) t σ H Q) :=
  ⟨fun pins s σ H Q I h => (pe_callTy (hc σ) hg hm hv ha hn hdb he hpl).run pins s σ H Q I h⟩
theorem cb_step {γ : Type} {R : Rel γ V} {f : List D → AH → Res γ} {σ : L2.St} {H : Hp} {Q : VK} (h : tG X.K R W (e1 ml f) σ H Q) :
    tCB (fun vs H Q => ∃ μ ah ds, Sim X.K μ H ah ∧ Reps X.K μ H ds vs ∧ Post X.K R (fun c d H' => W c d σ H') μ H Q (f ds ah)) (tG X.K (RA X.K) W ml) σ H Q := by
  obtain ⟨μ, env, ah, he, hs, hp⟩ := h
  exact ⟨μ, env, ah, he, hs, hp.bind fun ds ah1 μ1 vs H1 e1 s1 r1 p1 => ⟨μ1, ah1, ds, s1, r1, p1⟩⟩
theorem pd_callB {x : Str} {p : Pos} {id : String} {f : List D → AH → Res D} (hc : CallD X (RD X.K) (.builtin id) f) (hg : Gl X x) (hm : X.mg x = none) (hv : bootBuiltins x = some (.builtin id)) (ha : PAs X W (e :: es) ml) (hn : x ≠ "__name__" := by decide) (hdb : (x == ("__debug__" : Str)) = false := by decide)
    (he : starEach (e :: es) X.env = (false, eval e X.env) :: starEach es X.env := by rfl) (hpl : (backTo pos (starEach es X.env)).any (·.1) = false := by rfl) : PD X W (.Call (.Name x p) (e :: es) [] pos) (e1 ml f) :=
  PE.weak (pe_callBσ (fun σ => hc _) hg hm hv ha hn hdb he hpl) fun _ _ _ h => cb_step h
theorem pd_callT {x : Str} {p : Pos} {T : String} {f : List D → AH → Res D} (hc : CallD X (RD X.K) (.type T) f) (hg : Gl X x) (hm : X.mg x = none) (hv : bootBuiltins x = some (.type T)) (ha : PAs X W (e :: es) ml) (hn : x ≠ "__name__" := by decide) (hdb : (x == ("__debug__" : Str)) = false := by decide)
    (he : starEach (e :: es) X.env = (false, eval e X.env) :: starEach es X.env := by rfl) (hpl : (backTo pos (starEach es X.env)).any (·.1) = false := by rfl) : PD X W (.Call (.Name x p) (e :: es) [] pos) (e1 ml f) :=
  PE.weak (pe_callTyσ (fun σ => hc _) hg hm hv ha hn hdb he hpl) fun _ _ _ h => cb_step h
def CallS (X : Cx) {γ : Type} (Rs : Rel (List D) V) (R : Rel γ V) (F : Value) (f : List D → AH → Res γ) : Prop := ∀ W, CallR X F (fun vs H Q => ∃ μ ah ds x H₀, vs = [x] ∧ Sim X.K μ H ah ∧ Rs.r H₀ μ H ds x ∧ Post X.K R W μ H Q (f ds ah))
theorem cs_step {γ : Type} {Rs : Rel (List D) V} {R : Rel γ V} {f : List D → AH → Res γ} {σ : L2.St} {H : Hp} {Q : VK} (h : tG X.K R W (e1 ml f) σ H Q) :
    tCB (fun vs H Q => ∃ μ ah ds x H₀, vs = [x] ∧ Sim X.K μ H ah ∧ Rs.r H₀ μ H ds x ∧ Post X.K R (fun c d H' => W c d σ H') μ H Q (f ds ah)) (tCons (tG X.K Rs W ml) tNil) σ H Q := by
  obtain ⟨μ, env, ah, he, hs, hp⟩ := h
  exact ⟨μ, env, ah, he, hs, hp.bind fun ds ah1 μ1 x H1 e1 s1 r1 p1 => ⟨μ1, ah1, ds, x, H, rfl, s1, r1, p1⟩⟩
theorem pg_callSB {γ : Type} {Rs : Rel (List D) V} {R : Rel γ V} {x : Str} {p : Pos} {id : String} {f : List D → AH → Res γ} (hc : CallS X Rs R (.builtin id) f) (hg : Gl X x) (hm : X.mg x = none) (hv : bootBuiltins x = some (.builtin id)) (ha : PE X e (tG X.K Rs W ml)) (hn : x ≠ "__name__" := by decide) (hdb : (x == ("__debug__" : Str)) = false := by decide)
    (he : starEach (e :: []) X.env = (false, eval e X.env) :: starEach [] X.env := by rfl) (hpl : (backTo pos (starEach [] X.env)).any (·.1) = false := by rfl) : PE X (.Call (.Name x p) [e] [] pos) (tG X.K R W (e1 ml f)) :=
  PE.weak (pe_callBσ (fun σ => hc _) hg hm hv (pa_cons ha pa_nil he) hn hdb he hpl) fun _ _ _ h => cs_step h
theorem pg_callST {γ : Type} {Rs : Rel (List D) V} {R : Rel γ V} {x : Str} {p : Pos} {T : String} {f : List D → AH → Res γ} (hc : CallS X Rs R (.type T) f) (hg : Gl X x) (hm : X.mg x = none) (hv : bootBuiltins x = some (.type T)) (ha : PE X e (tG X.K Rs W ml)) (hn : x ≠ "__name__" := by decide) (hdb : (x == ("__debug__" : Str)) = false := by decide)
    (he : starEach (e :: []) X.env = (false, eval e X.env) :: starEach [] X.env := by rfl) (hpl : (backTo pos (starEach [] X.env)).any (·.1) = false := by rfl) : PE X (.Call (.Name x p) [e] [] pos) (tG X.K R W (e1 ml f)) :=
  PE.weak (pe_callTyσ (fun σ => hc _) hg hm hv (pa_cons ha pa_nil he) hn hdb he hpl) fun _ _ _ h => cs_step h
def oLen (d : D) (ah : AH) : Res D := match d with
  | .str z => if z.length ≤ line then .ok (.int z.length) ah else .stuck
  | .tup ds => .ok (.int ds.length) ah
  | .ref n => match ah[n]? with
    | some (.lst ds) => .ok (.int ds.length) ah
    | some (.ro ds) => .ok (.int ds.length) ah
    | some (.dK kvs) => .ok (.int kvs.length) ah
    | _ => .stuck
  | _ => .stuck
def oLenA : List D → AH → Res D
  | [d], ah => oLen d ah
  | _, _ => .stuck
theorem reps1 {K : PySem.W.Frag} {μ : List Addr} {H : Hp} {d : D} {vs : List V} (h : Reps K μ H [d] vs) : ∃ v, vs = [v] ∧ Rep K μ H d v := by
  simp only [Reps] at h
  obtain ⟨w, ws, rfl, r, rfl⟩ := h
  exact ⟨w, rfl, r⟩
theorem reps2 {K : PySem.W.Frag} {μ : List Addr} {H : Hp} {d e : D} {vs : List V} (h : Reps K μ H [d, e] vs) : ∃ v w, vs = [v, w] ∧ Rep K μ H d v ∧ Rep K μ H e w := by
  simp only [Reps] at h
  obtain ⟨w, ws, rfl, r, u, us, rfl, r2, rfl⟩ := h
  exact ⟨w, u, rfl, r, r2⟩
theorem call_lenDict : CallR X (.builtin "len") (fun xs H Q => ∃ a kvs, xs = [.ref a] ∧ H a = some (.dK kvs) ∧ Q (.int kvs.length) H) := by
  intro pins s σ H xs us Q I rv h
  obtain ⟨a, kvs, rfl, e, q⟩ := h
  obtain ⟨u, rfl, r⟩ := vals1 rv
  cases r
  exact d_len I (.inl e) fun t s' I' => ⟨.int _, H, I', ⟨t, rfl⟩, q⟩
theorem cd_len : CallD X (RD X.K) (.builtin "len") oLenA := fun W => by
  refine CallR.imp (call_len.or call_lenDict) fun vs H Q ⟨μ, ah, ds, S, r, hp⟩ => ?_
  unfold oLenA at hp
  split at hp
  · rename_i ah' d
    obtain ⟨v, rfl, r1⟩ := reps1 r
    unfold oLen at hp
    cases d with
    | str z =>
      dsimp only at hp
      split at hp
      · rename_i hl
        rw [d_str r1]; exact .inl ⟨_, _, rfl, ⟨line_le hl, rfl⟩, Post.ok1 (R := RD X.K) hp S r_int⟩
      · exact hp.elim
    | tup xs =>
      obtain ⟨a, ws, rfl, q, r2⟩ := d_tup r1
      exact .inl ⟨_, _, rfl, .inr ⟨ws, q, r2.length⟩, Post.ok1 (R := RD X.K) hp S r_int⟩
    | ref n =>
      obtain ⟨a, ea, rfl⟩ := d_ref r1
      dsimp only at hp
      split at hp
      · rename_i xs e
        obtain ⟨b, ws, eb, q, r2⟩ := S.list (show listAt ah n = some xs by unfold listAt; rw [e])
        rw [ea] at eb; cases eb
        exact .inl ⟨_, _, rfl, .inl ⟨ws, q, r2.length⟩, Post.ok1 (R := RD X.K) hp S r_int⟩
      · rename_i xs e
        obtain ⟨b, ws, eb, q, r2⟩ := S.list (show listAt ah n = some xs by unfold listAt; rw [e])
        rw [ea] at eb; cases eb
        exact .inl ⟨_, _, rfl, .inl ⟨ws, q, r2.length⟩, Post.ok1 (R := RD X.K) hp S r_int⟩
      · rename_i kvs e
        obtain ⟨kws, e0, e1, _⟩ := S.ok n a _ ea e
        refine .inr ⟨a, kws, rfl, e0, Post.ok1 (R := RD X.K) hp S ?_⟩
        rw [show kws.length = kvs.length by simpa using (congrArg List.length e1).symm]
        exact r_int
      · exact hp.elim
    | _ => exact hp.elim
  · exact hp.elim
end
end HA
namespace HA
open PySem PySem.Spec PyProof.Rows L2
section
variable {X : Cx} {W : WX} {k : Nat} {e : Expr} {es : List Expr} {m : EM D} {ml : EM (List D)} {pos : Pos}
def tyName (d : D) (ah : AH) : Option String := match d with
  | .non => some "NoneType"
  | .bl _ => some "bool"
  | .int _ => some "int"
  | .str _ => some "str"
  | .tup _ => some "tuple"
  | .ref n => match ah[n]? with
    | some (.lst _) => some "list"
    | some (.dK _) => some "dict"
    | some (.dT _) => some "dict"
    | _ => none
  | .cst _ => none
  | .glo _ => none
  | .xv _ _ _ _ => none
def tyIs : String → String → Bool
  | "bool", "int" => true
  | a, b => a == b
def tyTable : List String := ["NoneType", "bool", "int", "str", "tuple", "list", "dict"]
theorem kit_table : ∀ a ∈ tyTable, ∀ b ∈ tyTable, kitB a b = some (tyIs a b) := by decide +kernel
def tyArgs : List D → Option (List String)
  | [] => some []
  | .cst (.ty T) :: r => (tyArgs r).map (T :: ·)
  | _ => none
def oIsi : List D → AH → Res D
  | [d, .cst (.ty T)], ah => match tyName d ah with
    | some a => if T ∈ tyTable then .ok (.bl (tyIs a T)) ah else .stuck
    | none => .stuck
  | [d, .tup ts], ah => match tyName d ah, tyArgs ts with
    | some a, some Ts => if (Ts.all fun T => decide (T ∈ tyTable)) = true then .ok (.bl (Ts.any (tyIs a))) ah else .stuck
    | _, _ => .stuck
  | _, _ => .stuck
theorem tyArgs_cls {K : PySem.W.Frag} {μ : List Addr} {H : Hp} : ∀ {ts : List D} {Ts : List String} {cs : List V}, tyArgs ts = some Ts → Reps K μ H ts cs → Paired ClsV cs (Ts.map Value.type)
  | [], Ts, cs, h, r => by
    simp only [tyArgs, Option.some.injEq] at h
    subst h
    simp only [Reps] at r
    subst r
    exact .nil
  | d :: ts, Ts, cs, h, r => by
    unfold tyArgs at h
    split at h
    · rename_i e; cases e
    · rename_i T r' e
      cases e
      rw [Option.map_eq_some_iff] at h
      obtain ⟨Ts', h1, rfl⟩ := h
      simp only [Reps] at r
      obtain ⟨w, ws, rfl, r1, r2⟩ := r
      have ew : w = .ty T := by simpa only [Rep] using r1
      subst ew
      exact .cons (.ty T) (tyArgs_cls h1 r2)
    · cases h
theorem kit_any {K : PySem.W.Frag} {a : String} (ha : a ∈ tyTable) : ∀ {Ts : List String}, (Ts.all fun T => decide (T ∈ tyTable)) = true → PySem.W.kitAny K (.type a) (Ts.map Value.type) = some (Ts.any (tyIs a))
  | [], _ => kitAny_nil
  | T :: Ts, h => by
    rw [List.all_cons, Bool.and_eq_true, decide_eq_true_eq] at h
    rw [List.map_cons, List.any_cons]
    refine kitAny_cons (kit_ty (kit_table a ha T h.1)) (fun e => ?_) fun e => by rw [e]; rfl
    rw [e, Bool.false_or]
    exact kit_any ha h.2
theorem call_isiQ : CallR X (.builtin "isinstance") (fun xs H Q => ∃ (x : V) (tp : Addr) (cs : List V) (t : Value) (us : List Value) (b : Bool), xs = [x, .ref tp] ∧ SqT X.K H tp cs ∧ Paired ClsV cs us ∧ TyX X.K H x t ∧ PySem.W.kitAny X.K t us = some b ∧ Q (.bl b) H) := by
  intro pins s σ H xs us Q I r h
  obtain ⟨x, tp, cs, t, ws, b, rfl, hT, k, ty, e, q⟩ := h
  obtain ⟨u1, u2, rfl, r1, r2⟩ := vals2 r
  cases (show u2 = Value.ref tp from r2)
  obtain ⟨P, Z, p, hx⟩ := kit_of I r1 ty
  obtain ⟨its, rv, ⟨⟨cls, dd, data, sl⟩, h1, h2, n, h3⟩, _⟩ := I.tuple hT
  have e3 := ClsV.all k rv
  subst e3
  simp only at h2 h3
  subst h2 h3
  exact PySem.W.kia_tup Z I.kIn p h1 e hx fun tk => ⟨.bl b, H, I.tok tk, rfl, q⟩
theorem call_isiU : CallR X (.builtin "isinstance") (fun xs H Q => rIsi X.K xs H Q ∨ ∃ (x : V) (tp : Addr) (cs : List V) (t : Value) (us : List Value) (b : Bool), xs = [x, .ref tp] ∧ SqT X.K H tp cs ∧ Paired ClsV cs us ∧ TyX X.K H x t ∧ PySem.W.kitAny X.K t us = some b ∧ Q (.bl b) H) := by
  intro pins s σ H xs us Q I r h
  rcases h with h | h
  · exact call_isi _ _ _ _ _ _ _ I r h
  · exact call_isiQ _ _ _ _ _ _ _ I r h
theorem tyName_v {K : PySem.W.Frag} {μ : List Addr} {H : Hp} {d : D} {v : V} {ah : AH} {a : String} (S : Sim K μ H ah) (r : Rep K μ H d v) (e : tyName d ah = some a) : TyX K H v (.type a) ∧ a ∈ tyTable := by
  cases d with
  | non => cases e; rw [d_non r]; exact ⟨.base .non, by decide⟩
  | bl b => cases e; rw [d_bl r]; exact ⟨.base (.bl b), by decide⟩
  | int i => cases e; rw [d_int r]; exact ⟨.base (.int i), by decide⟩
  | str i => cases e; rw [d_str r]; exact ⟨.base (.str i), by decide⟩
  | tup ds =>
    cases e
    obtain ⟨a, vs, rfl, q, _⟩ := d_tup r
    refine ⟨?_, by decide⟩
    rcases q with (q | ⟨o, q⟩) | ⟨o, its, n, q1, q2, _⟩
    · exact .base (.tup q)
    · exact .fTuple q
    · exact .kTuple q1 q2
  | ref n =>
    obtain ⟨b, eb, rfl⟩ := d_ref r
    unfold tyName at e
    dsimp only at e
    split at e
    · rename_i ds q
      cases e
      obtain ⟨vs, e0, _⟩ := S.ok n b _ eb q
      exact ⟨.base (.lst e0), by decide⟩
    · rename_i ds q
      cases e
      obtain ⟨vs, e0, _⟩ := S.ok n b _ eb q
      exact ⟨.base (.dK e0), by decide⟩
    · rename_i ds q
      cases e
      obtain ⟨vs, e0, _⟩ := S.ok n b _ eb q
      exact ⟨.base (.dT e0), by decide⟩
    · cases e
  | cst w => cases e
  | glo w => cases e
  | xv a d ks ds => cases e
theorem cd_isi : CallD X (RD X.K) (.builtin "isinstance") oIsi := fun W => by
  refine CallR.imp call_isiU fun vs H Q ⟨μ, ah, ds, S, r, hp⟩ => ?_
  unfold oIsi at hp
  split at hp
  · rename_i ah' d T
    obtain ⟨v, w, rfl, r1, r2⟩ := reps2 r
    have ew : w = .ty T := by simpa only [Rep] using r2
    subst ew
    split at hp
    · rename_i a e
      split at hp
      · rename_i hT
        obtain ⟨h1, h2⟩ := tyName_v S r1 e
        exact .inl ⟨v, _, _, _, _, rfl, .ty T, h1, kit_ty (kit_table a h2 T hT), Post.ok1 (R := RD X.K) hp S r_bl⟩
      · exact hp.elim
    · exact hp.elim
  · rename_i ah' d ts
    obtain ⟨v, w, rfl, r1, r2⟩ := reps2 r
    obtain ⟨tp, cs, rfl, q, rr⟩ := d_tup r2
    split at hp
    · rename_i a Ts e eT
      split at hp
      · rename_i hT
        obtain ⟨h1, h2⟩ := tyName_v S r1 e
        exact .inr ⟨v, tp, cs, _, _, _, rfl, q, tyArgs_cls eT rr, h1, kit_any h2 hT, Post.ok1 (R := RD X.K) hp S r_bl⟩
      · exact hp.elim
    · exact hp.elim
  · exact hp.elim
theorem pd_ty {x : Str} {T : String} {pos : Pos} (hg : Gl X x) (hm : X.mg x = none) (hv : bootBuiltins x = some (.type T)) (hn : x ≠ "__name__" := by decide) (hd : (x == ("__debug__" : Str)) = false := by decide) : PD X W (.Name x pos) (eC (.cst (.ty T))) :=
  pd_c (pe_bltn (v := .ty T) hg hm hv rfl hn hd) fun _ _ => by simp only [Rep]
def oRepr : List D → AH → Res D
  | [d], ah => match pd ah d with
    | some p => if p.showable = true ∧ p.shown.length ≤ line ∧ p.depth ≤ 63 then .ok (.str p.shown) ah else .stuck
    | none => .stuck
  | _, _ => .stuck
theorem cd_reprU (hgd : X.A.guards = some []) (hun : X.A.units + 65 < cLine) : CallD X (RD X.K) (.builtin "repr") oRepr := fun W => by
  intro pins s σ H xs us Q I rv h
  obtain ⟨μ, ah, ds, S, r, hp⟩ := h
  unfold oRepr at hp
  split at hp
  · rename_i ah' d
    obtain ⟨v, rfl, r1⟩ := reps1 r
    obtain ⟨u, rfl, ru⟩ := vals1 rv
    split at hp
    · rename_i p e
      split at hp
      · rename_i hc
        have q := Inv.sr I S deep d v u p e r1 ru
        refine SR.repr q hc.1 (line_le hc.2.1) hgd (by have := hc.2.2; omega) fun h' t tk kk => ?_
        exact ⟨.str p.shown, H, I.kept kk, ⟨t, rfl⟩, Post.ok1 (R := RD X.K) hp S r_str⟩
      · exact hp.elim
    · exact hp.elim
  · exact hp.elim
theorem cd_repr (hr : Rm k X.A) : CallD X (RD X.K) (.builtin "repr") oRepr := cd_reprU hr.gd hr.u65
def oStr : List D → AH → Res D
  | [.int i], ah => if i.natAbs.log2 < 1920 then .ok (.str (toString i)) ah else .stuck
  | [.bl b], ah => .ok (.str (if b then "True" else "False")) ah
  | [.str x], ah => .ok (.str x) ah
  | [.non], ah => .ok (.str "None") ah
  | _, _ => .stuck
def oInt : List D → AH → Res D
  | [.int i], ah => .ok (.int i) ah
  | [.bl b], ah => .ok (.int (if b then 1 else 0)) ah
  | _, _ => .stuck
def oMin : List D → AH → Res D
  | [.int i, .int j], ah => .ok (.int (if j < i then j else i)) ah
  | _, _ => .stuck
def oMax : List D → AH → Res D
  | [.int i, .int j], ah => .ok (.int (if j > i then j else i)) ah
  | _, _ => .stuck
def dInt : D → Option Int
  | .int i => some i
  | _ => none
def dBool : D → Option Bool
  | .bl b => some b
  | _ => none
def dStr : D → Option Str
  | .str b => some b
  | _ => none
theorem ints_of : ∀ {ds : List D} {ns : List Int}, optAll dInt ds = some ns → ds = ns.map D.int
  | [], _, h => by cases h; rfl
  | d :: ds, _, h => by
    obtain ⟨b, cs, rfl, h1, h2⟩ := optAll_cons h
    rw [ints_of h2]
    cases d <;> simp only [dInt, Option.some.injEq, reduceCtorEq] at h1
    subst h1; rfl
theorem bools_of : ∀ {ds : List D} {ns : List Bool}, optAll dBool ds = some ns → ds = ns.map D.bl
  | [], _, h => by cases h; rfl
  | d :: ds, _, h => by
    obtain ⟨b, cs, rfl, h1, h2⟩ := optAll_cons h
    rw [bools_of h2]
    cases d <;> simp only [dBool, Option.some.injEq, reduceCtorEq] at h1
    subst h1; rfl
theorem strs_of : ∀ {ds : List D} {ns : List Str}, optAll dStr ds = some ns → ds = ns.map D.str
  | [], _, h => by cases h; rfl
  | d :: ds, _, h => by
    obtain ⟨b, cs, rfl, h1, h2⟩ := optAll_cons h
    rw [strs_of h2]
    cases d <;> simp only [dStr, Option.some.injEq, reduceCtorEq] at h1
    subst h1; rfl
def sSum (ds : List D) (ah : AH) : Res D := match optAll dInt ds with
  | some ns => .ok (.int ns.sum) ah
  | none => .stuck
def sAll (ds : List D) (ah : AH) : Res D := match optAll dBool ds with
  | some bs => .ok (.bl (bs.all id)) ah
  | none => .stuck
def sAny (ds : List D) (ah : AH) : Res D := match optAll dBool ds with
  | some bs => .ok (.bl (bs.any id)) ah
  | none => .stuck
theorem cs_sum (hc : X.calm = true) : CallS X (RM X.K) (RD X.K) (.builtin "sum") sSum := fun W => by
  refine CallR.imp (cr_sum hc) fun vs H Q ⟨μ, ah, ds, x, H₀, ev, S, ⟨a, ws, ex, q, r⟩, hp⟩ => ?_
  subst ev ex
  unfold sSum at hp
  split at hp
  · rename_i ns e
    rw [ints_of e] at r
    rw [r.ints] at q
    exact ⟨a, ns, rfl, q, Post.ok1 (R := RD X.K) hp S r_int⟩
  · exact hp.elim
theorem cs_all (hc : X.calm = true) : CallS X (RM X.K) (RD X.K) (.builtin "all") sAll := fun W => by
  refine CallR.imp (cr_all hc) fun vs H Q ⟨μ, ah, ds, x, H₀, ev, S, ⟨a, ws, ex, q, r⟩, hp⟩ => ?_
  subst ev ex
  unfold sAll at hp
  split at hp
  · rename_i ns e
    rw [bools_of e] at r
    rw [r.bools] at q
    exact ⟨a, ns, rfl, q, Post.ok1 (R := RD X.K) hp S r_bl⟩
  · exact hp.elim
def sTup (ds : List D) (ah : AH) : Res D := .ok (.tup ds) ah
def sList (ds : List D) (ah : AH) : Res (List D) := .ok ds ah
theorem cs_list : CallS X (RQ X.K) (RL X.K) (.type "list") sList := fun W => by
  refine CallR.imp call_list_of fun vs H Q ⟨μ, ah, ds, x, H₀, ev, S, ⟨a, ws, ex, q, r⟩, hp⟩ => ?_
  subst ev ex
  exact ⟨a, ws, rfl, q, fun l hl => hp.newL S r hl⟩
def ixD {α : Type} (xs : List α) (i : Int) : Option α := (ixN xs.length i).bind fun j => xs[j]?
def valD {κ : Type} [DecidableEq κ] (kvs : List (κ × D)) (k : κ) : Option D := (kvs.find? fun kv => decide (kv.1 = k)).map (·.2)
def oIx : D → D → AH → Res D
  | .tup ds, .int i, ah => match ixD ds i with
    | some d => .ok d ah
    | none => .stuck
  | .str z, .int i, ah => if z.length ≤ line then match ixD z.cps.toList i with
    | some c => .ok (.str ⟨#[c]⟩) ah
    | none => .stuck else .stuck
  | .ref n, .int i, ah => match ah[n]? with
    | some (.lst ds) => match ixD ds i with
      | some d => .ok d ah
      | none => .stuck
    | some (.ro ds) => match ixD ds i with
      | some d => .ok d ah
      | none => .stuck
    | _ => .stuck
  | _, _, _ => .stuck
theorem ixD_get {K : PySem.W.Frag} {μ : List Addr} {H : Hp} {ds : List D} {vs : List V} {i : Int} {d : D} (r : Reps K μ H ds vs) (e : ixD ds i = some d) : ∃ v, atI vs i = some v ∧ Rep K μ H d v := by
  unfold ixD at e
  obtain ⟨j, e1, e2⟩ := Option.bind_eq_some_iff.mp e
  obtain ⟨v, e3, r2⟩ := r.get e2
  exact ⟨v, by unfold atI; rw [← r.length, e1]; exact e3, r2⟩
theorem pe_ixσ {r : L2.St → R2} {a b : Expr} {ta tb : TE} (hr : ∀ σ, IxR X (r σ)) (ha : PE X a ta) (hb : PE X b tb) (hs : PlainIx b) : PE X (.Subscript a b pos) (fun σ H Q => tOp (r σ) ta tb σ H Q) :=
  ⟨fun pins s σ H Q I h => (pe_ix (hr σ) ha hb hs).run pins s σ H Q I h⟩
theorem IxR.imp {r r' : R2} (h : IxR X r) (k : ∀ x y H Q, r' x y H Q → r x y H Q) : IxR X r' := fun ve se pins s σ H x y v u Q I rx ry q => h ve se pins s σ H x y v u Q I rx ry (k x y H Q q)
theorem ix_d (Wx : Value → Option Addr → Hp → Prop) : IxR X (rO (R := RD X.K) X.K Wx oIx) := by
  refine IxR.imp ix_seq fun x y H Q ⟨μ, ah, dx, dy, S, rx, ry, hp⟩ => ?_
  unfold oIx at hp
  split at hp
  · split at hp
    · rename_i d e
      obtain ⟨a, vs, rfl, q, r2⟩ := d_tup rx
      obtain ⟨v, ev, rv⟩ := ixD_get r2 e
      rw [d_int ry]
      exact .inr (.inl ⟨a, vs, _, v, rfl, rfl, q, ev, Post.ok1 (R := RD X.K) hp S rv⟩)
    · exact hp.elim
  · split at hp
    · rename_i hl
      split at hp
      · rename_i c e
        rw [d_str rx, d_int ry]
        exact .inr (.inr ⟨_, _, c, rfl, rfl, line_le hl, e, Post.ok1 (R := RD X.K) hp S r_str⟩)
      · exact hp.elim
    · exact hp.elim
  · rename_i ah' n i
    obtain ⟨a, ea, rfl⟩ := d_ref rx
    split at hp
    · rename_i ds q
      split at hp
      · rename_i d e
        obtain ⟨b, vs, eb, q2, r2⟩ := S.list (show listAt _ n = some ds by unfold listAt; rw [q])
        rw [ea] at eb; cases eb
        obtain ⟨v, ev, rv⟩ := ixD_get r2 e
        rw [d_int ry]
        exact .inl ⟨a, vs, _, v, rfl, rfl, q2, ev, Post.ok1 (R := RD X.K) hp S rv⟩
      · exact hp.elim
    · rename_i ds q
      split at hp
      · rename_i d e
        obtain ⟨b, vs, eb, q2, r2⟩ := S.list (show listAt _ n = some ds by unfold listAt; rw [q])
        rw [ea] at eb; cases eb
        obtain ⟨v, ev, rv⟩ := ixD_get r2 e
        rw [d_int ry]
        exact .inl ⟨a, vs, _, v, rfl, rfl, q2, ev, Post.ok1 (R := RD X.K) hp S rv⟩
      · exact hp.elim
    · exact hp.elim
  · exact hp.elim
theorem pd_ix {a b : Expr} {ma mb : EM D} (ha : PD X W a ma) (hb : PD X W b mb) (hs : PlainIx b := by exact fun _ _ => rfl) : PD X W (.Subscript a b pos) (e2 ma mb oIx) :=
  PE.weak (pe_ixσ (fun σ => ix_d (fun c d H' => W c d σ H')) ha hb hs) fun _ _ _ h => op2 h
def lIx (ds : List D) (d : D) (ah : AH) : Res D := match d with
  | .int i => match ixD ds i with
    | some x => .ok x ah
    | none => .stuck
  | _ => .stuck
def cut {α : Type} (xs : List α) (lo hi : Option Int) : List α := (xs.drop (HT.sIx xs.length 0 lo)).take (HT.sIx xs.length xs.length hi - HT.sIx xs.length 0 lo)
def oPart (m : Option (EM D)) : EM (Option Int) := match m with
  | none => fun _ ah => .ok none ah
  | some m => e1 m fun d ah => match d with
    | .int i => .ok (some i) ah
    | _ => .stuck
def RP : Rel (Option Int) (Option Int) := ⟨fun _ _ _ a b => a = b, fun _ h => h⟩
theorem PO.weak {p : Option Expr} {t t' : TO} (h : PO X p t) (k : ∀ σ H Q, t' σ H Q → t σ H Q) : PO X p t' := ⟨fun pins s σ H Q I q => h.run pins s σ H Q I (k σ H Q q)⟩
def PPart (X : Cx) (W : WX) (p : Option Expr) (m : EM (Option Int)) : Prop := PO X p (tG X.K RP W m)
theorem pp_none : PPart X W none (oPart none) := PO.weak po_none fun σ H Q ⟨μ, env, ah, he, hs, hp⟩ => Post.ok1 (R := RP) hp hs rfl
theorem pp_some (h : PD X W e m) : PPart X W (some e) (oPart (some m)) := by
  refine PO.weak (po_some h) fun σ H Q ⟨μ, env, ah, he, hs, hp⟩ => ?_
  refine ⟨μ, env, ah, he, hs, hp.bind fun d ah1 μ1 x H1 e1 s1 r1 p1 => ?_⟩
  cases d with
  | int i => exact ⟨i, d_int (show Rep X.K μ1 H1 (.int i) x from r1), Post.ok1 (R := RP) p1 s1 rfl⟩
  | _ => exact p1.elim
def e3 {α β γ δ : Type} (ma : EM α) (mb : EM β) (mc : EM γ) (f : α → β → γ → AH → Res δ) : EM δ := fun env ah => (ma env ah).bind fun x ah1 => (mb env ah1).bind fun y ah2 => (mc env ah2).bind fun z ah3 => f x y z ah3
def oCut (d : D) (lo hi : Option Int) (ah : AH) : Res D := match d with
  | .tup ds => .ok (.tup (cut ds lo hi)) ah
  | .str z => if z.length ≤ line then .ok (.str (cutS z lo hi)) ah else .stuck
  | _ => .stuck
theorem Reps.cut {K : PySem.W.Frag} {μ : List Addr} {H : Hp} {ds : List D} {vs : List V} (r : Reps K μ H ds vs) (lo hi : Option Int) : Reps K μ H (HA.cut ds lo hi) (cutV vs lo hi) := by
  unfold HA.cut cutV
  rw [r.length]
  exact (r.drop _).take _
variable {lo hi : Option Expr} {mlo mhi : EM (Option Int)} {p2 : Pos}
def lCut (ds : List D) (lo hi : Option Int) (ah : AH) : Res (List D) := .ok (cut ds lo hi) ah
theorem pl_cut (he : PD X W e m) (hl : PPart X W lo mlo) (hh : PPart X W hi mhi) : PL X W (.Subscript e (.Slice lo hi none p2) pos) (e3 m mlo mhi fun d lo hi ah => (listOf d ah).bind fun ds ah => lCut ds lo hi ah) := by
  refine PE.weak (pe_slice sl_list he hl hh) fun σ H Q ⟨μ, env, ah, he, hs, hp⟩ => ?_
  refine ⟨μ, env, ah, he, hs, hp.bind0 fun d ah1 μ1 x H1 e1 s1 r1 p1 => ?_⟩
  refine ⟨μ1, env, ah1, he.ext e1, s1, ?_⟩
  refine (Post.ext e1 p1).bind fun lo ah2 μ2 lo' H2 e2 s2 r2 p2 => ?_
  refine tG_next he (e1.trans e2) s2 (p2.bind fun hi ah3 μ3 hi' H3 e3 s3 r3 p3 => ?_)
  cases (show lo = lo' from r2)
  cases (show hi = hi' from r3)
  cases d with
  | ref n =>
    obtain ⟨a, ea, rfl⟩ := d_ref (Rep.ext (Rep.ext (show Rep X.K μ1 H1 (.ref n) x from r1) e2) e3)
    unfold listOf at p3
    dsimp only at p3
    split at p3
    · rename_i ds e
      obtain ⟨b, vs, eb, q, r⟩ := s3.list e
      rw [ea] at eb; cases eb
      exact ⟨a, vs, rfl, q, fun p np => Post.newL p3 s3 (r.cut lo hi) np⟩
    · exact p3.elim
  | _ => exact p3.elim
end
end HA
namespace HA
open PySem PySem.Spec PyProof.Rows L2
mutual
def D.eqb : D → D → Bool
  | .non, .non => true
  | .bl a, .bl b => decide (a = b)
  | .int a, .int b => decide (a = b)
  | .str a, .str b => decide (a = b)
  | .tup a, .tup b => D.eqbs a b
  | .ref a, .ref b => decide (a = b)
  | .cst a, .cst b => decide (a = b)
  | .glo a, .glo b => decide (a = b)
  | .xv a d ks ds, .xv b e ls es => decide (a = b) && (decide (d = e) && (decide (ks = ls) && D.eqbs ds es))
  | _, _ => false
def D.eqbs : List D → List D → Bool
  | [], [] => true
  | a :: as, b :: bs => D.eqb a b && D.eqbs as bs
  | _, _ => false
end
mutual
theorem D.eqb_iff : ∀ (a b : D), D.eqb a b = true ↔ a = b
  | .non, b => by cases b <;> simp [D.eqb]
  | .bl x, b => by cases b <;> simp [D.eqb]
  | .int x, b => by cases b <;> simp [D.eqb]
  | .str x, b => by cases b <;> simp [D.eqb]
  | .tup x, b => by
    cases b with
    | tup y => simp only [D.eqb, D.tup.injEq]; exact D.eqbs_iff x y
    | _ => simp [D.eqb]
  | .ref x, b => by cases b <;> simp [D.eqb]
  | .cst x, b => by cases b <;> simp [D.eqb]
  | .glo x, b => by cases b <;> simp [D.eqb]
  | .xv a d ks ds, b => by
    cases b with
    | xv b e ls es => simp only [D.eqb, D.xv.injEq, Bool.and_eq_true, decide_eq_true_eq]; rw [D.eqbs_iff ds es]
    | _ => simp [D.eqb]
theorem D.eqbs_iff : ∀ (a b : List D), D.eqbs a b = true ↔ a = b
  | [], b => by cases b <;> simp [D.eqbs]
  | x :: xs, b => by
    cases b with
    | nil => simp [D.eqbs]
    | cons y ys => simp only [D.eqbs, Bool.and_eq_true, List.cons.injEq]; rw [D.eqb_iff x y, D.eqbs_iff xs ys]
end
instance : DecidableEq D := fun a b => decidable_of_iff _ (D.eqb_iff a b)
inductive SRes where
  | nx (env : Env) (h : AH)
  | rt (d : D) (h : AH)
  | bk (env : Env) (h : AH)
  | ct (env : Env) (h : AH)
  | exn (c : Str) (fs : Option (List (Str × D))) (env : Env) (h : AH)
  | stuck
abbrev SM := Env → AH → SRes
def PostS (K : PySem.W.Frag) (W : WX) (D : Ends) (μ : List Addr) (H : Hp) : SRes → Prop
  | .nx env' ah' => ∀ μ' σ' H', Ext K μ H μ' H' → Sim K μ' H' ah' → EnvRel K μ' H' env' σ' → D.nx σ' H'
  | .rt d ah' => ∀ μ' v H', Ext K μ H μ' H' → Sim K μ' H' ah' → Rep K μ' H' d v → D.rt v H'
  | .bk env' ah' => ∀ μ' σ' H', Ext K μ H μ' H' → Sim K μ' H' ah' → EnvRel K μ' H' env' σ' → D.bk σ' H'
  | .ct env' ah' => ∀ μ' σ' H', Ext K μ H μ' H' → Sim K μ' H' ah' → EnvRel K μ' H' env' σ' → D.ct σ' H'
  | .exn c fs env' ah' => ∀ μ' σ' H' od, Ext K μ H μ' H' → Sim K μ' H' ah' → EnvRel K μ' H' env' σ' → ExnOk K μ' H' fs od → W (.ref (gA K c)) od σ' H'
  | .stuck => False
section
variable {K : PySem.W.Frag} {W : WX} {D : Ends} {μ μ1 : List Addr} {H H1 : Hp}
theorem PostS.ext {r : SRes} (e : Ext K μ H μ1 H1) (h : PostS K W D μ H r) : PostS K W D μ1 H1 r := by
  cases r with
  | nx env ah => exact fun μ' σ' H' e' => h μ' σ' H' (e.trans e')
  | rt d ah => exact fun μ' σ' H' e' => h μ' σ' H' (e.trans e')
  | bk env ah => exact fun μ' σ' H' e' => h μ' σ' H' (e.trans e')
  | ct env ah => exact fun μ' σ' H' e' => h μ' σ' H' (e.trans e')
  | exn c fs env ah => exact fun μ' σ' H' od e' => h μ' σ' H' od (e.trans e')
  | stuck => exact h
end
def Res.thenS {α : Type} (r : Res α) (env : Env) (f : α → AH → SRes) : SRes := match r with
  | .ok a h => f a h
  | .exn c fs h => .exn c fs env h
  | .stuck => .stuck
@[simp] theorem Res.thenS_ok {α : Type} (a : α) (h : AH) (env : Env) (f : α → AH → SRes) : (Res.ok a h).thenS env f = f a h := rfl
@[simp] theorem Res.thenS_exn {α : Type} (c : Str) (fs : Option (List (Str × D))) (h : AH) (env : Env) (f : α → AH → SRes) : (Res.exn c fs h : Res α).thenS env f = .exn c fs env h := rfl
@[simp] theorem Res.thenS_stuck {α : Type} (env : Env) (f : α → AH → SRes) : (Res.stuck : Res α).thenS env f = .stuck := rfl
theorem PostS.bind {K : PySem.W.Frag} {W : WX} {D : Ends} {μ : List Addr} {H : Hp} {β γ : Type} {R : Rel β γ} {P : γ → Hp → Prop} {r : Res β} {env : Env} {σ : L2.St} {f : β → AH → SRes} (h : PostS K W D μ H (r.thenS env f)) (he : EnvRel K μ H env σ)
    (k : ∀ d ah1 μ1 x H1, Ext K μ H μ1 H1 → Sim K μ1 H1 ah1 → R.r H μ1 H1 d x → PostS K W D μ1 H1 (f d ah1) → P x H1) : Post K R (fun c d H' => W c d σ H') μ H P r := by
  cases r with
  | ok d ah => exact fun μ' x H' e' s' r' => k d ah μ' x H' e' s' r' (PostS.ext e' h)
  | exn c fs ah => exact fun μ' H' od e' s' x => h μ' σ H' od e' s' (he.ext e') x
  | stuck => exact h
def tS (K : PySem.W.Frag) (W : WX) (m : SM) : TS := fun D σ H => ∃ (μ : List Addr) (env : Env) (ah : AH), EnvRel K μ H env σ ∧ Sim K μ H ah ∧ PostS K W D μ H (m env ah)
theorem PS.weak {X : Cx} {st : Stmt} {t t' : TS} (h : PS X st t) (k : ∀ D σ H, t' D σ H → t D σ H) : PS X st t' := ⟨fun pins s σ H D I q => h.run pins s σ H D I (k D σ H q)⟩
theorem PSs.weak {X : Cx} {st : List Stmt} {t t' : TS} (h : PSs X st t) (k : ∀ D σ H, t' D σ H → t D σ H) : PSs X st t' := ⟨fun pins s σ H D I q => h.run pins s σ H D I (k D σ H q)⟩
def PZ (X : Cx) (W : WX) (st : Stmt) (m : SM) : Prop := PS X st (tS X.K W m)
def PZs (X : Cx) (W : WX) (st : List Stmt) (m : SM) : Prop := PSs X st (tS X.K W m)
def sSkip : SM := fun env ah => .nx env ah
def sSeq (a b : SM) : SM := fun env ah => match a env ah with
  | .nx env1 ah1 => b env1 ah1
  | r => r
def sRet (m : EM D) : SM := fun env ah => (m env ah).thenS env fun d ah1 => .rt d ah1
def sRetN : SM := fun _ ah => .rt .non ah
def sExpr (m : EM D) : SM := fun env ah => (m env ah).thenS env fun _ ah1 => .nx env ah1
def sIf (c : EM Bool) (a b : SM) : SM := fun env ah => (c env ah).thenS env fun x ah1 => if x = true then a env ah1 else b env ah1
section
variable {X : Cx} {W : WX} {k : Nat} {e : Expr} {es : List Expr} {m : EM D} {ml : EM (List D)} {pos : Pos} {st : Stmt} {rest : List Stmt} {ma mb : SM}
theorem post_next {K : PySem.W.Frag} {W : WX} {D : Ends} {μ : List Addr} {H : Hp} {env : Env} {ah : AH} {σ : L2.St} (h : PostS K W D μ H (.nx env ah)) (S : Sim K μ H ah) (E : EnvRel K μ H env σ) : D.nx σ H := h μ σ H Ext.refl S E
theorem pzs_nil : PZs X W [] sSkip := PSs.weak pss_nil fun D σ H ⟨μ, env, ah, he, hs, hp⟩ => post_next hp hs he
theorem pzs_cons (h1 : PZ X W st ma) (h2 : PZs X W rest mb) : PZs X W (st :: rest) (sSeq ma mb) := by
  refine PSs.weak (pss_cons h1 h2) fun D σ H ⟨μ, env, ah, he, hs, hp⟩ => ?_
  refine ⟨μ, env, ah, he, hs, ?_⟩
  unfold sSeq at hp
  cases q : ma env ah with
  | nx env1 ah1 =>
    rw [q] at hp
    exact fun μ' σ' H' e' s' r' => ⟨μ', env1, ah1, r', s', PostS.ext e' hp⟩
  | rt d ah1 => rw [q] at hp; exact hp
  | bk env1 ah1 => rw [q] at hp; exact hp
  | ct env1 ah1 => rw [q] at hp; exact hp
  | exn c fs env1 ah1 => rw [q] at hp; exact hp
  | stuck => rw [q] at hp; exact hp
theorem pzs_one (h1 : PZ X W st ma) : PZs X W [st] ma := PSs.weak (pss_one h1) fun D σ H h => h
theorem pz_ret (h : PD X W e m) : PZ X W (.Return (some e) pos) (sRet m) := by
  refine PS.weak (ps_ret h) fun D σ H ⟨μ, env, ah, he, hs, hp⟩ => ?_
  exact ⟨μ, env, ah, he, hs, PostS.bind hp he fun d ah1 μ1 x H1 e1 s1 r1 p1 => p1 μ1 x H1 Ext.refl s1 r1⟩
theorem pz_expr (h : PD X W e m) (hs : swapsWith e none pos.line X.env = pure false := by rfl) : PZ X W (.Expr e pos) (sExpr m) := by
  refine PS.weak (ps_expr h hs) fun D σ H ⟨μ, env, ah, he, hs, hp⟩ => ?_
  exact ⟨μ, env, ah, he, hs, PostS.bind hp he fun d ah1 μ1 x H1 e1 s1 r1 p1 => post_next p1 s1 (he.ext e1)⟩
theorem pz_if {c : Expr} {a b : List Stmt} {mc : EM Bool} (hc : PB X W c mc) (ha : PZs X W a ma) (hb : PZs X W b mb) : PZ X W (.If c a b pos) (sIf mc ma mb) := by
  refine PS.weak (ps_if hc ha hb) fun D σ H ⟨μ, env, ah, he, hs, hp⟩ => ?_
  refine ⟨μ, env, ah, he, hs, PostS.bind hp he fun d ah1 μ1 x H1 e1 s1 r1 p1 => ?_⟩
  cases (show d = x from r1)
  cases d with
  | true => exact ⟨μ1, env, ah1, he.ext e1, s1, p1⟩
  | false => exact ⟨μ1, env, ah1, he.ext e1, s1, p1⟩
abbrev TM := D → Env → AH → Option Env
def But (ts : List Nat) (σ σ' : L2.St) : Prop := σ'.length = σ.length ∧ ∀ j, j ∉ ts → σ'[j]? = σ[j]?
def tGt (K : PySem.W.Frag) (ts : List Nat) (tm : TM) : TG := fun v σ H Q => ∃ μ env ah d env', EnvRel K μ H env σ ∧ Sim K μ H ah ∧ Rep K μ H d v ∧ tm d env ah = some env' ∧ ∀ σ', EnvRel K μ H env' σ' → But ts σ σ' → Q σ' H
def tGts (K : PySem.W.Frag) (ts : List Nat) (tm : List D → Env → AH → Option Env) : TGs := fun vs σ H Q => ∃ μ env ah ds env', EnvRel K μ H env σ ∧ Sim K μ H ah ∧ Reps K μ H ds vs ∧ tm ds env ah = some env' ∧ ∀ σ', EnvRel K μ H env' σ' → But ts σ σ' → Q σ' H
theorem PG.weak {tg : Expr} {t t' : TG} (h : PG X tg t) (k : ∀ v σ H Q, t' v σ H Q → t v σ H Q) : PG X tg t' := ⟨fun pins s σ H v u Q I r q => h.run pins s σ H v u Q I r (k v σ H Q q)⟩
theorem PGs.weak {tg : List Expr} {t t' : TGs} (h : PGs X tg t) (k : ∀ v σ H Q, t' v σ H Q → t v σ H Q) : PGs X tg t' := ⟨fun pins s σ H v u Q I r q => h.run pins s σ H v u Q I r (k v σ H Q q)⟩
def PT1 (X : Cx) (tg : Expr) (ts : List Nat) (tm : TM) : Prop := PG X tg (tGt X.K ts tm)
def PTn (X : Cx) (tg : List Expr) (ts : List Nat) (tm : List D → Env → AH → Option Env) : Prop := PGs X tg (tGts X.K ts tm)
theorem But.refl {ts : List Nat} {σ : L2.St} : But ts σ σ := ⟨rfl, fun _ _ => rfl⟩
theorem But.trans {ts us : List Nat} {σ σ1 σ2 : L2.St} (a : But ts σ σ1) (b : But us σ1 σ2) : But (ts ++ us) σ σ2 := ⟨b.1.trans a.1, fun j h => by
  rw [List.mem_append, not_or] at h
  exact (b.2 j h.2).trans (a.2 j h.1)⟩
theorem EnvRel.set {K : PySem.W.Frag} {μ : List Addr} {H : Hp} {env : Env} {σ : L2.St} {d : D} {v : V} (h : EnvRel K μ H env σ) (r : Rep K μ H d v) (i : Nat) : EnvRel K μ H (env.set i (some d)) (σ.set i (some v)) := by
  refine ⟨by simp [h.1], fun j x e => ?_⟩
  by_cases hj : i = j
  · subst hj
    have hl : i < env.length := by
      have := (List.getElem?_eq_some_iff.mp e).1
      simpa using this
    rw [List.getElem?_set_self hl] at e
    cases e
    exact ⟨v, by rw [List.getElem?_set_self (by rw [← h.1]; exact hl)], r⟩
  · rw [List.getElem?_set_ne hj] at e
    obtain ⟨w, q, rw⟩ := h.2 j x e
    exact ⟨w, by rw [List.getElem?_set_ne hj]; exact q, rw⟩
def gSet (i : Nat) : TM := fun d env _ => some (env.set i (some d))
theorem pt_name {i : Nat} {x : Str} (hN : X.N.Nodup) (hi : X.N[i]? = some x) (hx : Loc X.env.scope x) (hf : X.fn x = true ∨ X.env.scope.names.lookup x = some .local := by first | exact .inl rfl | exact .inr rfl | assumption) : PT1 X (.Name x pos) [i] (gSet i) := by
  refine PG.weak (pg_name hN hi hx hf) fun v σ H Q ⟨μ, env, ah, d, env', he, hs, r, e, q⟩ => ?_
  cases e
  exact q _ (he.set r i) ⟨by simp, fun j h => List.getElem?_set_ne (by intro z; exact h (by simp [z]))⟩
def gNilD : List D → Env → AH → Option Env := fun ds env _ => match ds with
  | [] => some env
  | _ => none
def gConsD (t : TM) (u : List D → Env → AH → Option Env) : List D → Env → AH → Option Env := fun ds env ah => match ds with
  | d :: r => (t d env ah).bind fun env1 => u r env1 ah
  | [] => none
theorem ptn_nil : PTn X [] [] gNilD := by
  refine PGs.weak pgs_nil fun v σ H Q ⟨μ, env, ah, ds, env', he, hs, r, e, q⟩ => ?_
  unfold gNilD at e
  split at e
  · cases e
    simp only [Reps] at r
    exact ⟨r, q _ he But.refl⟩
  · cases e
theorem ptn_cons {t : TM} {ts us : List Nat} {u : List D → Env → AH → Option Env} (h1 : PT1 X e ts t) (h2 : PTn X es us u) (hs : (assignEach (e :: es) X.env).map (·.2) = assign e X.env :: (assignEach es X.env).map (·.2) := by rfl) : PTn X (e :: es) (ts ++ us) (gConsD t u) := by
  refine PGs.weak (pgs_cons h1 h2 hs) fun v σ H Q ⟨μ, env, ah, ds, env', he, hs, r, eq, q⟩ => ?_
  unfold gConsD at eq
  split at eq
  · obtain ⟨env1, e1, e2⟩ := Option.bind_eq_some_iff.mp eq
    simp only [Reps] at r
    obtain ⟨w, ws, rfl, r1, r2⟩ := r
    exact ⟨w, ws, rfl, μ, env, ah, _, env1, he, hs, r1, e1, fun σ1 he1 b1 => ⟨μ, env1, ah, _, env', he1, hs, r2, e2, fun σ2 he2 b2 => q σ2 he2 (b1.trans b2)⟩⟩
  · cases eq
def gTupD (n : Nat) (u : List D → Env → AH → Option Env) : TM := fun d env ah => match d with
  | .tup ds => if ds.length = n then u ds env ah else none
  | _ => none
theorem pt_tup {j : Nat} {ts : List Nat} {u : List D → Env → AH → Option Env} {n : Nat} (hc : X.calm = true) (h : PTn X es ts u) (hn : (assignEach es X.env).length = n := by rfl) (hst : (assignEach es X.env).findIdx? (·.1) = none := by rfl) : PT1 X (.Tuple es j pos) ts (gTupD n u) := by
  refine PG.weak (pg_tup hc h hn hst) fun v σ H Q ⟨μ, env, ah, d, env', he, hs, r, eq, q⟩ => ?_
  unfold gTupD at eq
  split at eq
  · split at eq
    · rename_i hl
      obtain ⟨a, vs, rfl, q1, r1⟩ := d_tup r
      exact ⟨a, vs, rfl, q1, by rw [← r1.length]; exact hl, μ, env, ah, _, env', he, hs, r1, eq, q⟩
    · cases eq
  · cases eq
def sAsg (m : EM D) (t : TM) : SM := fun env ah => (m env ah).thenS env fun d ah1 => match t d env ah1 with
  | some env1 => .nx env1 ah1
  | none => .stuck
theorem pz_set {i : Nat} {x : Str} {pos' : Pos} (hN : X.N.Nodup) (hi : X.N[i]? = some x) (hx : Loc X.env.scope x) (h : PD X W e m) (hs : swapsWith e (some (.Name x pos')) pos.line X.env = pure false := by rfl) (hf : X.fn x = true ∨ X.env.scope.names.lookup x = some .local := by first | exact .inl rfl | exact .inr rfl | assumption) : PZ X W (.Assign [.Name x pos'] e pos) (sAsg m (gSet i)) := by
  refine PS.weak (ps_set hN hi hx h hs hf) fun D σ H q => ?_
  obtain ⟨μ, env, ah, he, hs, hp⟩ := q
  refine ⟨μ, env, ah, he, hs, PostS.bind hp he fun d ah1 μ1 x H1 e1 s1 r1 p1 => ?_⟩
  exact post_next p1 s1 ((he.ext e1).set r1 i)
def sPar (i j : Nat) (ml : EM (List D)) : SM := fun env ah => (ml env ah).thenS env fun ds ah1 => match ds with
  | [x, y] => .nx ((env.set i (some x)).set j (some y)) ah1
  | _ => .stuck
end
end HA
namespace HA
open PySem PySem.Spec PyProof.Rows L2
structure Itm where
  items : List D
  guard : List (Nat × List D)
def Itm.okIn (t : Itm) (ah : AH) : Bool := t.guard.all fun p => decide (listAt ah p.1 = some p.2)
def ItOk (K : PySem.W.Frag) (μ : List Addr) (H : Hp) (t : Itm) (J : It) : Prop := ∀ (i : Nat) μ' H' ah', Ext K μ H μ' H' → Sim K μ' H' ah' → t.okIn ah' = true →
  (t.items.length ≤ i → J.stop i H') ∧ ∀ d, t.items[i]? = some d → J.go i H' ∧ ∀ x H'', J.yld i H' x H'' → Ext K μ' H' μ' H'' ∧ Sim K μ' H'' ah' ∧ Rep K μ' H'' d x
def RI (K : PySem.W.Frag) : Rel Itm It := ⟨fun _ μ H t J => ItOk K μ H t J, fun _ h => h⟩
theorem ItOk.ext {K : PySem.W.Frag} {μ μ1 : List Addr} {H H1 : Hp} {t : Itm} {J : It} (h : ItOk K μ H t J) (e : Ext K μ H μ1 H1) : ItOk K μ1 H1 t J := fun i μ' H' ah' e' => h i μ' H' ah' (e.trans e')
def PF (X : Cx) (W : WX) (tg iter : Expr) (mi : EM Itm) : Prop := PI X tg iter (tG X.K (RI X.K) W mi)
theorem PI.weak {X : Cx} {tg iter : Expr} {w w' : TI} (h : PI X tg iter w) (k : ∀ σ H R, w' σ H R → w σ H R) : PI X tg iter w' := ⟨fun pins s σ H R I q => h.run pins s σ H R I (k σ H R q)⟩
section
variable {X : Cx} {W : WX} {k : Nat} {e : Expr} {tg : Expr} {es : List Expr} {m : EM D} {ml : EM (List D)} {pos : Pos}
theorem itl_ok {K : PySem.W.Frag} {μ : List Addr} {H : Hp} {a : Addr} {ds : List D} {t : Itm} (ht : t.items = ds) (h : ∀ μ' H' ah', Ext K μ H μ' H' → Sim K μ' H' ah' → t.okIn ah' = true → ∃ vs, SqL K H' a vs ∧ Reps K μ' H' ds vs) : ItOk K μ H t (Itl K a) := by
  intro i μ' H' ah' e S o
  obtain ⟨vs, q, r⟩ := h μ' H' ah' e S o
  subst ht
  refine ⟨fun hl => ⟨vs, q, by rw [← r.length]; exact hl⟩, fun d ed => ?_⟩
  obtain ⟨v, ev, rv⟩ := r.get ed
  refine ⟨⟨vs, v, q, ev⟩, fun x H'' y => ?_⟩
  obtain ⟨eH, y⟩ := y
  subst eH
  have z := y vs q
  rw [ev] at z; cases z
  exact ⟨Ext.refl, S, rv⟩
theorem itt_ok {K : PySem.W.Frag} {μ : List Addr} {H : Hp} {a : Addr} {ds : List D} {vs : List V} (q : SqT K H a vs) (r : Reps K μ H ds vs) : ItOk K μ H ⟨ds, []⟩ (Itt K a) := by
  intro i μ' H' ah' e S o
  have q := e.tup.1 a vs q
  have r := r.ext e
  refine ⟨fun hl => ⟨vs, q, by rw [← r.length]; exact hl⟩, fun d ed => ?_⟩
  obtain ⟨v, ev, rv⟩ := r.get ed
  refine ⟨⟨vs, v, q, ev⟩, fun x H'' y => ?_⟩
  obtain ⟨eH, y⟩ := y
  subst eH
  have z := y vs q
  rw [ev] at z; cases z
  exact ⟨Ext.refl, S, rv⟩
def iNew (m : EM (List D)) : EM Itm := e1 m fun ds ah => .ok ⟨ds, []⟩ ah
theorem pf_l (h : PL X W e ml) : PF X W tg e (iNew ml) := by
  refine PI.weak (pi_list h) fun σ H R ⟨μ, env, ah, he, hs, hp⟩ => ?_
  refine ⟨μ, env, ah, he, hs, hp.bind fun ds ah1 μ1 x H1 e1 s1 r1 p1 => ?_⟩
  obtain ⟨a, vs, rfl, _, q, hm, r⟩ := r1
  refine ⟨a, rfl, ⟨vs, SqL.of q⟩, Post.ok1 (R := RI X.K) p1 s1 ?_⟩
  exact itl_ok rfl fun μ' H' ah' e S _ => ⟨vs, SqL.of (e.keep a _ hm q), r.ext e⟩
def iVal (d : D) (ah : AH) : Res Itm := match d with
  | .tup ds => .ok ⟨ds, []⟩ ah
  | .ref n => match listAt ah n with
    | some ds => .ok ⟨ds, [(n, ds)]⟩ ah
    | none => .stuck
  | _ => .stuck
theorem pf_d (h : PD X W e m) : PF X W tg e (e1 m iVal) := by
  have two : PI X tg e (fun σ H R => iTup X.K (tG X.K (RD X.K) W m) σ H R) := pi_tup h
  have one : PI X tg e (fun σ H R => iList X.K (tG X.K (RD X.K) W m) σ H R) := pi_list h
  have both : PI X tg e (fun σ H R => iTup X.K (tG X.K (RD X.K) W m) σ H R ∨ iList X.K (tG X.K (RD X.K) W m) σ H R) := ⟨fun pins s σ H R I q => q.elim (two.run pins s σ H R I) (one.run pins s σ H R I)⟩
  refine PI.weak both fun σ H R ⟨μ, env, ah, he, hs, hp⟩ => ?_
  cases q : m env ah with
  | stuck => unfold e1 at hp; rw [q] at hp; exact hp.elim
  | exn c fs ah1 =>
    left
    unfold e1 at hp; rw [q] at hp
    exact ⟨μ, env, ah, he, hs, by rw [q]; exact hp⟩
  | ok d ah1 =>
    unfold e1 at hp; rw [q] at hp
    cases d with
    | tup ds =>
      left
      refine ⟨μ, env, ah, he, hs, ?_⟩
      rw [q]
      intro μ1 x H1 e1 s1 r1
      obtain ⟨a, vs, rfl, q2, r2⟩ := d_tup (show Rep X.K μ1 H1 (.tup ds) x from r1)
      exact ⟨a, rfl, ⟨vs, q2⟩, Post.ok1 (R := RI X.K) (Post.ext e1 hp) s1 (itt_ok q2 r2)⟩
    | ref n =>
      right
      refine ⟨μ, env, ah, he, hs, ?_⟩
      rw [q]
      intro μ1 x H1 e1 s1 r1
      obtain ⟨a, ea, rfl⟩ := d_ref (show Rep X.K μ1 H1 (.ref n) x from r1)
      unfold iVal at hp
      rw [Res.bind_ok] at hp
      dsimp only at hp
      split at hp
      · rename_i ds el
        obtain ⟨b, vs, eb, q2, r2⟩ := s1.list el
        rw [ea] at eb; cases eb
        refine ⟨a, rfl, ⟨vs, q2⟩, Post.ok1 (R := RI X.K) (Post.ext e1 hp) s1 ?_⟩
        refine itl_ok rfl fun μ' H' ah' e S o => ?_
        have z : listAt ah' n = some ds := by
          simp only [Itm.okIn, List.all_cons, List.all_nil, Bool.and_true, decide_eq_true_eq] at o
          exact o
        obtain ⟨b, ws, eb, q3, r3⟩ := S.list z
        rw [pre_get e.pre ea] at eb; cases eb
        exact ⟨ws, q3, r3⟩
      · exact hp.elim
    | _ => exact hp.elim
def iRange1 (d : D) (ah : AH) : Res Itm := match d with
  | .int j => if -(2 ^ 62) ≤ j ∧ j < 2 ^ 62 then .ok ⟨(List.range j.toNat).map fun (i : Nat) => D.int i, []⟩ ah else .stuck
  | _ => .stuck
def iRange2 (d f : D) (ah : AH) : Res Itm := match d, f with
  | .int i, .int j => if -(2 ^ 62) ≤ i ∧ i < 2 ^ 62 ∧ -(2 ^ 62) ≤ j ∧ j < 2 ^ 62 then .ok ⟨(List.range (j - i).toNat).map fun (n : Nat) => D.int (i + n), []⟩ ah else .stuck
  | _, _ => .stuck
theorem itr_ok {K : PySem.W.Frag} {μ : List Addr} {H : Hp} {lo : Int} {n : Nat} {f : Nat → D} (hf : ∀ i, f i = .int (lo + i)) : ItOk K μ H ⟨(List.range n).map f, []⟩ (Itr lo n) := by
  intro i μ' H' ah' e S o
  refine ⟨fun hl => (show n ≤ i by simpa using hl), fun d ed => ?_⟩
  rw [List.getElem?_map] at ed
  have hi : i < n := by
    cases q : (List.range n)[i]? with
    | none => rw [q] at ed; cases ed
    | some j => have := (List.getElem?_eq_some_iff.mp q).1; simpa using this
  refine ⟨hi, fun x H'' y => ?_⟩
  obtain ⟨eH, ex⟩ := y
  subst eH ex
  rw [List.getElem?_range hi, Option.map_some, hf] at ed
  cases ed
  exact ⟨Ext.refl, S, by simp only [Rep]⟩
theorem pf_range1 {a : Expr} {p : Pos} {ma : EM D} (hg : Gl X "range") (hm : X.mg "range" = none) (ha : PD X W a ma) (hs : starEach [a] X.env = [(false, eval a X.env)] := by rfl) : PF X W tg (.Call (.Name "range" p) [a] [] pos) (e1 ma iRange1) := by
  refine PI.weak (pi_range1 hg hm (pa_cons ha pa_nil hs) hs) fun σ H R ⟨μ, env, ah, he, hs, hp⟩ => ?_
  refine ⟨μ, env, ah, he, hs, hp.bind fun d ah1 μ1 x H1 e1 s1 r1 p1 => ?_⟩
  unfold iRange1 at p1
  split at p1
  · rename_i j
    split at p1
    · rename_i hl
      rw [d_int (show Rep X.K μ1 H1 (.int j) x from r1)]
      exact ⟨j, rfl, hl.1, hl.2, Post.ok1 (R := RI X.K) p1 s1 (itr_ok fun i => by rw [Int.zero_add])⟩
    · exact p1.elim
  · exact p1.elim
def forLoop (t : Itm) (tm : TM) (body : SM) : List D → Env → AH → SRes
  | [], env, ah => if t.okIn ah = true then .nx env ah else .stuck
  | d :: ds, env, ah => if t.okIn ah = true then match tm d env ah with
    | some env1 => match body env1 ah with
      | .nx e a => forLoop t tm body ds e a
      | .ct e a => forLoop t tm body ds e a
      | .bk e a => .nx e a
      | r => r
    | none => .stuck else .stuck
def sFor (mi : EM Itm) (tm : TM) (body : SM) : SM := fun env ah => (mi env ah).thenS env fun t ah1 => forLoop t tm body t.items env ah1
theorem pz_for {iter : Expr} {body : List Stmt} {mi : EM Itm} {tm : TM} {ts : List Nat} {mb : SM} (hp : PassesOwn (model X.prog X.w) X.A X.env X.xe) (hc : X.calm = true) (hi : PF X W tg iter mi) (hg : PT1 X tg ts tm) (hb : PZs X W body mb)
    (hs : ∀ x, foldedSetIterable iter X.env x = pure x := by intro _; rfl) : PZ X W (.For tg iter body [] pos) (sFor mi tm mb) := by
  refine PS.weak (ps_for hp hc hi hg hb hs) fun D σ H ⟨μ, env, ah, he, hs, hp⟩ => ?_
  refine ⟨μ, env, ah, he, hs, PostS.bind hp he fun t ah1 μ1 J H1 e1 s1 r1 p1 => ?_⟩
  have ok1 : ItOk X.K μ1 H1 t J := r1
  refine ⟨fun i n σ' H' => ∃ μ' env' ah', Ext X.K μ1 H1 μ' H' ∧ Sim X.K μ' H' ah' ∧ EnvRel X.K μ' H' env' σ' ∧ PostS X.K W D μ' H' (forLoop t tm mb (t.items.drop i) env' ah') ∧ i + n = t.items.length, ⟨t.items.length, μ1, env, ah1, Ext.refl, s1, he.ext e1, by rw [List.drop_zero]; exact p1, by omega⟩, ?_⟩
  rintro i n σ' H' ⟨μ', env', ah', ex, S, er, po, hn⟩
  by_cases hi : i < t.items.length
  · have ed : t.items[i]? = some t.items[i] := List.getElem?_eq_getElem hi
    rw [List.drop_eq_getElem_cons hi] at po
    unfold forLoop at po
    split at po
    · rename_i okb
      obtain ⟨_, ok2⟩ := ok1 i μ' H' ah' ex S okb
      obtain ⟨go, yl⟩ := ok2 _ ed
      refine .inr ⟨go, _, fun σ2 H2 h => ⟨n - 1, by omega, h⟩, fun x H'' y => ?_⟩
      obtain ⟨ex2, S2, rx⟩ := yl x H'' y
      split at po
      · rename_i env1 et
        refine ⟨μ', env', ah', _, env1, er.ext ex2, S2, rx, et, fun σ3 he3 _ => ⟨μ', env1, ah', he3, S2, ?_⟩⟩
        have fin : ∀ {μ5 : List Addr} {H5 : Hp} {σ5 : L2.St} {e5 : Env} {a5 : AH}, Ext X.K μ' H'' μ5 H5 → Sim X.K μ5 H5 a5 → EnvRel X.K μ5 H5 e5 σ5 → PostS X.K W D μ' H' (forLoop t tm mb (t.items.drop (i + 1)) e5 a5) →
            ∃ μ' env' ah', Ext X.K μ1 H1 μ' H5 ∧ Sim X.K μ' H5 ah' ∧ EnvRel X.K μ' H5 env' σ5 ∧ PostS X.K W D μ' H5 (forLoop t tm mb (t.items.drop (i + 1)) env' ah') ∧ i + 1 + (n - 1) = t.items.length := fun x5 s5 r5 p5 =>
          ⟨_, _, _, (ex.trans ex2).trans x5, s5, r5, PostS.ext (ex2.trans x5) p5, by omega⟩
        cases q : mb env1 ah' with
        | nx e5 a5 => rw [q] at po; exact fun μ5 σ5 H5 x5 s5 r5 => fin x5 s5 r5 po
        | ct e5 a5 => rw [q] at po; exact fun μ5 σ5 H5 x5 s5 r5 => fin x5 s5 r5 po
        | bk e5 a5 => rw [q] at po; exact fun μ5 σ5 H5 x5 s5 r5 => po μ5 σ5 H5 (ex2.trans x5) s5 r5
        | rt d5 a5 => rw [q] at po; exact fun μ5 v5 H5 x5 s5 r5 => po μ5 v5 H5 (ex2.trans x5) s5 r5
        | exn c5 f5 e5 a5 => rw [q] at po; exact fun μ5 σ5 H5 od x5 s5 r5 z5 => po μ5 σ5 H5 od (ex2.trans x5) s5 r5 z5
        | stuck => rw [q] at po; exact po
      · exact po.elim
    · exact po.elim
  · have e0 : t.items.drop i = [] := List.drop_eq_nil_of_le (by omega)
    rw [e0] at po
    unfold forLoop at po
    split at po
    · rename_i okb
      exact .inl ⟨(ok1 i μ' H' ah' ex S okb).1 (by omega), post_next po S er⟩
    · exact po.elim
@[irreducible] def nW : Nat := 100000
theorem nW_eq : nW = 100000 := by unfold nW; rfl
def whLoop (c : EM Bool) (body : SM) : Nat → Env → AH → SRes
  | 0, _, _ => .stuck
  | n + 1, env, ah => (c env ah).thenS env fun b ah1 => if b = true then match body env ah1 with
      | .nx e a => whLoop c body n e a
      | .ct e a => whLoop c body n e a
      | .bk e a => .nx e a
      | r => r else .nx env ah1
end
end HA
namespace HA
open PySem PySem.Spec PyProof.Rows L2
def noMem (K : PySem.W.Frag) : Prop := PySem.W.nsIn K mainGlobals "Memory" = some none
def Fr (K : PySem.W.Frag) (c : Value) : Prop := (c = .ref (gA K "Refused") ∨ c = .ref (gA K "NoBase")) → ¬ noMem K
def frW (K : PySem.W.Frag) (W : WX) : WX := fun c d σ H => Fr K c ∧ W c d σ H
def frE (K : PySem.W.Frag) (E : XK) : XK := fun c d H => Fr K c ∧ E c d H
def W0 : WX := fun _ _ _ _ => False
structure Takes (X : Cx) (W : WX) : Prop where
  n : L2N.Takes X W
  c : L2.Takes X (frW X.K W)
def CXf (K : PySem.W.Frag) (P : Program) (w : World) : CXT := fun lo H s E u s' => L2N.CX P w lo H s E u s' ∨ L2.CX P w lo H s (frE K E) u s'
theorem passF {X : Cx} {W : WX} (tk : Takes X W) (σ : L2.St) : PassesAt (CXf X.K X.prog X.w) X σ (WE W σ) := fun _ _ _ e s' I c => c.elim
  (fun c => tk.n e s' (L2N.XE.of_call I (fun _ _ _ h => h) c)) fun c => tk.c e s' (L2.XE.of_call (E := frE X.K (WE W σ)) I (fun _ _ _ h => h) c)
theorem takes_f {X : Cx} {E : XK} (hs : X.stack = X.env :: X.outer) (hf : X.env.frame = some X.env.locals) (hex : X.ex = []) {E1 : Value → Shared → Prop}
    (hx : X.xe = fun e s' => wpAny (model X.prog X.w) X.A (leaving X.env e) (fun _ s'' => CXf X.K X.prog X.w X.outer X.H_0 X.s_0 E e s'') E1 s') : Takes X (fun cls d _ H => E cls d H) := by
  refine ⟨fun u s' x => ?_, fun u s' x => ?_⟩
  · rw [hx]
    exact wpAny_mono (L2N.XE.leave (E := E) (E₁ := E1) hs hf hex (fun _ _ _ _ h => h) x) (fun _ _ h => .inl h) fun _ _ h => h
  · rw [hx]
    exact wpAny_mono (L2.XE.leave (E := frE X.K E) (E₁ := E1) hs hf hex (fun _ _ _ _ h => h) x) (fun _ _ h => .inr h) fun _ _ h => h
theorem takes0 {X : Cx} : Takes X W0 := ⟨fun _ _ ⟨_, _, _, _, _, _, _, _, _, _, _, _, _, _, _, _, h⟩ => h.elim, fun _ _ ⟨_, _, _, _, _, _, _, _, _, _, _, _, _, _, _, _, h⟩ => h.2.elim⟩
theorem Takes.imp {X : Cx} {W W' : WX} (t : Takes X W) (h : ∀ c d σ H, W' c d σ H → W c d σ H) : Takes X W' := ⟨t.n.imp h, t.c.imp fun c d σ H z => ⟨z.1, h c d σ H z.2⟩⟩
section
variable {X : Cx} {e : Expr} {es : List Expr} {ta : TA} {p pos : Pos}
theorem pmk_oexN {CX : CXT} {x : Str} {C fI : Addr} {k : Nat} {fd : FuncData} {ps : List Str} {sp : Sp} (T : OexC X.K C) (iC : PySem.W.findIn X.K (.ref C) "__init__" = some (some (.ref fI))) (tI : PySem.W.typeIn X.K (.ref fI) = some (.type "function"))
    (F1 : FnOk X.prog X.w X.K X.mg X.base CX k fI fd ps sp) (hr : Room (k + 1) X.A) (hb : Binds X.K fd ps []) (hx : Passes CX X (fun _ _ _ => False)) (hg : Gl X x) (hm : X.mg x = some (.ref C)) (ha : PA X (e :: es) ta)
    (hdb : (x == ("__debug__" : Str)) = false := by decide) (he : starEach (e :: es) X.env = (false, eval e X.env) :: starEach es X.env := by rfl) (hpl : (backTo pos (starEach es X.env)).any (·.1) = false := by rfl) : L2N.PMk X (.Call (.Name x p) (e :: es) [] pos) (tMkO C sp [] ta) := fun pins s σ H Q I h => by
  obtain ⟨c1, c2, c3, c4, bm, c6, c7, c8, c9, c10, c11, c12, c13, c14, c15, hC, hbm⟩ := T.cls
  refine wpAny_Call_Name_kw (ld_glob I hg hm ?_ hdb)
  refine PySem.W.callWith_K (h₀ := X.base) I.ok.mod.kin T.kC (thn (ha.run pos pins s σ H _ I h) fun us t ⟨vs, H1, J, rv, small, mk⟩ => ⟨J.kIn, ?_⟩) he hpl
  obtain ⟨g, gs, dr, tk, os⟩ := t
  let a : Addr := g.objs.size + 1
  let g2 : Heap := (g.push (PySem.W.kdv_tup us)).push (PySem.HandSPX.excO C g.objs.size)
  have grows : ∀ b o, g.get? b = some o → g2.get? b = some o := fun b o z => Heap.get?_push_of_some _ (Heap.get?_push_of_some _ z)
  have there : g2.get? a = some (PySem.HandSPX.excO C g.objs.size) := by
    show ((g.push (PySem.W.kdv_tup us)).push (PySem.HandSPX.excO C g.objs.size)).get? (g.objs.size + 1) = _
    heap_get
  have J2 : Inv X pins σ (upd H1 a (exo a C none)) ⟨g2, gs, dr, tk, os⟩ := J.laid (t' := tk) grows (Nat.le_succ _) (exo_ok there)
  have q0 := mk a (J.hok.fresh (Nat.le_succ _))
  rw [List.append_nil] at q0
  have rs : Vals (V.ref a :: vs) (Value.ref a :: us) := .cons rfl rv
  have n1 : (Value.ref a :: us).length = ps.length := rs.length.symm.trans (F1.len _ _ _ _ q0)
  have few : us.length ≤ sizeLine := by
    rw [← Paired.length rv, sizeLine_eq]
    omega
  have bd := hb _ (Value.ref a :: us) J2.kIn (by rw [List.append_nil]; exact n1)
  rw [List.append_nil] at bd
  refine wpAny_call (PySem.HandSPX.call_own F.excBase_ValueError (fun Y => PySem.HandSPX.refsVE_contains Y bm hbm) (J.kIn _ _ hC) (PySem.W.looks_findIn J.kIn iC) (fun z => PySem.W.bind_fn J.kIn z tI) few ?_)
  refine codeAny_mono (F1.run _ X.stack _ _ ⟨Value.ref a :: us, []⟩ (Value.ref a :: us) _ _ (fun _ _ _ => False) (hr.make C us []) (J2.env0.make C us []) bd rs q0) fun r t2 z => ?_
  cases r with
  | error er => exact hx pins σ _ _ er t2 J2 z
  | ok fl =>
    cases fl with
    | ret u =>
      obtain ⟨v, H2, eos, bare, un, hok, ru, ev, d, fs, ea, ed, nd, q⟩ := z
      subst ev
      obtain ⟨g3, gs3, dr3, tk3, os3⟩ := t2
      obtain ⟨t0, G, J3, kG, fresh, at3, na⟩ := mk_end0 (d2 := dr3) (t2 := tk3) J (Nat.le_succ _) grows un hok eos bare ea ed nd
      exact ⟨ru, a, _, _, ⟨G, gs3, dr3, tk3, os3⟩, _, .ref C, some d, rfl, J3, kG, fresh, at3, ⟨rfl, rfl, fun ws e => by cases e; rfl⟩, rfl, rfl, na, rfl, bare, raises_own T.exC T.tyC, q⟩
    | next => exact z.elim
    | brk => exact z.elim
    | cont => exact z.elim
end
end HA
namespace HA
open PySem PySem.Spec PyProof.Rows L2
def wipeE (env : Env) : List Nat → Env
  | [] => env
  | v :: vs => (wipeE env vs).set v none
theorem wipe_rel {K : PySem.W.Frag} {μ : List Addr} {H : Hp} {env : Env} {σ : L2.St} (h : EnvRel K μ H env σ) : ∀ vs, EnvRel K μ H (wipeE env vs) (wipe σ vs)
  | [] => h
  | v :: vs => by
    have q := wipe_rel h vs
    refine ⟨by simp [wipeE, wipe, q.1], fun j d e => ?_⟩
    unfold wipeE at e
    unfold wipe
    by_cases hj : v = j
    · subst hj
      have hl : v < (wipeE env vs).length := by
        have := (List.getElem?_eq_some_iff.mp e).1
        simpa using this
      rw [List.getElem?_set_self hl] at e
      cases e
    · rw [List.getElem?_set_ne hj] at e
      obtain ⟨w, x, y⟩ := q.2 j d e
      exact ⟨w, by rw [List.getElem?_set_ne hj]; exact x, y⟩
theorem wipe_at (σ : L2.St) : ∀ (vs : List Nat) (j : Nat), (wipe σ vs)[j]? = if j ∈ vs ∧ j < σ.length then some none else σ[j]?
  | [], j => by simp [wipe]
  | v :: vs, j => by
    unfold wipe
    by_cases hj : v = j
    · subst hj
      by_cases hl : v < σ.length
      · rw [List.getElem?_set_self (by rw [wipe_length]; exact hl)]; simp [hl]
      · rw [List.getElem?_eq_none (by rw [List.length_set, wipe_length]; omega)]
        simp [hl]
    · rw [List.getElem?_set_ne hj, wipe_at σ vs j]
      have : j ∈ v :: vs ↔ j ∈ vs := by
        rw [List.mem_cons]
        exact ⟨fun h => h.elim (fun z => absurd z.symm hj) id, .inr⟩
      simp only [this]
theorem wipe_but {ts vs : List Nat} {σ σ' : L2.St} (h : But ts σ σ') (hs : ∀ j ∈ ts, j ∈ vs) : wipe σ' vs = wipe σ vs := by
  apply List.ext_getElem?
  intro j
  rw [wipe_at, wipe_at, h.1]
  by_cases hj : j ∈ vs ∧ j < σ.length
  · rw [if_pos hj, if_pos hj]
  · rw [if_neg hj, if_neg hj]
    by_cases hm : j ∈ ts
    · have : ¬ j < σ.length := fun z => hj ⟨hs j hm, z⟩
      rw [List.getElem?_eq_none (by rw [h.1]; omega), List.getElem?_eq_none (by omega)]
    · exact h.2 j hm
theorem wipe_wipe (σ : L2.St) (vs : List Nat) : wipe (wipe σ vs) vs = wipe σ vs := by
  apply List.ext_getElem?
  intro j
  rw [wipe_at, wipe_at, wipe_length]
  split
  · rfl
  · rfl
theorem Sim.foreign {K : PySem.W.Frag} {μ : List Addr} {H : Hp} {ah : AH} (S : Sim K μ H ah) {p : Addr} {u : HO} {vs : List V} (hm : p ∉ μ.tail) (hp : H p = some (.lst vs)) : Sim K μ (upd H p u) ah := by
  have mu : Mut (H p) := by rw [hp]; trivial
  refine ⟨S.len, S.nd, fun n a o e1 e2 => ?_, S.pos, S.ro0⟩
  refine (S.ok n a o e1 e2).mono (List.prefix_refl _) (TExt.mut mu) (fun q => ?_) fun ob v z => ?_
  · refine upd_ne fun z => ?_
    subst z
    have hn : n ≠ 0 := fun z => by
      have := (S.ro0 n o e2).mpr z
      rw [q] at this; cases this
    obtain ⟨k, rfl⟩ : ∃ k, n = k + 1 := ⟨n - 1, by omega⟩
    exact hm (List.mem_of_getElem? (i := k) (by rw [List.getElem?_tail]; exact e1))
  · rw [upd_ne fun w => by subst w; rw [hp] at z; cases z]; exact z
theorem Ext.foreign {K : PySem.W.Frag} {μ μ1 : List Addr} {H H1 : Hp} {p : Addr} {u : HO} {vs : List V} (e : Ext K μ H μ1 H1) (h0 : H p = none) (hp : H1 p = some (.lst vs)) : Ext K μ H μ1 (upd H1 p u) where
  pre := e.pre
  tup := e.tup.trans (TExt.mut (by rw [hp]; trivial))
  new := e.new
  keep := fun a o hm h => by
    rw [upd_ne (fun z => by subst z; rw [h0] at h; cases h)]
    exact e.keep a o hm h
  there := fun a h => e.there a (there_upd a h)
def lcLoop (t : Itm) (tm : TM) (test : EM Bool) (elt : EM D) (vs : List Nat) (env : Env) : List D → List D → AH → Res (List D)
  | [], acc, ah => if t.okIn ah = true then .ok acc ah else .stuck
  | d :: ds, acc, ah => if t.okIn ah = true ∧ acc.length < line then match tm d (wipeE env vs) ah with
    | some env1 => match test env1 ah with
      | .ok true ah1 => match elt env1 ah1 with
        | .ok y ah2 => lcLoop t tm test elt vs env ds (acc ++ [y]) ah2
        | _ => .stuck
      | .ok false ah1 => lcLoop t tm test elt vs env ds acc ah1
      | _ => .stuck
    | none => .stuck else .stuck
def lLc (mi : EM Itm) (tm : TM) (test : EM Bool) (elt : EM D) (vs : List Nat) : EM (List D) := fun env ah => (mi env ah).bind fun t ah1 => lcLoop t tm test elt vs env t.items [] ah1
section
variable {X : Cx} {W : WX}
def PTsD (X : Cx) (W : WX) (ifs : List Expr) (m : EM Bool) : Prop := PTs X ifs (tG X.K RB W m)
def bYes : EM Bool := fun _ ah => .ok true ah
theorem PTs.weak {ifs : List Expr} {t t' : TT} (h : PTs X ifs t) (k : ∀ σ H Q, t' σ H Q → t σ H Q) : PTs X ifs t' := ⟨fun pins s σ H Q I q => h.run pins s σ H Q I (k σ H Q q)⟩
theorem ptsd_nil : PTsD X W [] bYes := PTs.weak pts_nil fun σ H Q ⟨μ, env, ah, he, hs, hp⟩ => Post.ok1 (R := RB) hp hs rfl
theorem ptsd_one {c : Expr} {m : EM Bool} (h : PB X W c m) : PTsD X W [c] m := pts_one h
theorem Post.only {β γ : Type} {K : PySem.W.Frag} {R : Rel β γ} {Wx : Value → Option Addr → Hp → Prop} {μ : List Addr} {H : Hp} {Q : γ → Hp → Prop} {r : Res β} {d : β} {ah : AH} (e : r = .ok d ah) (h : ∀ μ' x H', Ext K μ H μ' H' → Sim K μ' H' ah → R.r H μ' H' d x → Q x H') : Post K R Wx μ H Q r := by rw [e]; exact h
theorem lc_step {σ : L2.St} {H : Hp} {Q : VK} {mi : EM Itm} {ts vs : List Nat} {tm : TM} {mt : EM Bool} {me : EM D} (hts : ∀ j ∈ ts, j ∈ vs) (h : tG X.K (RL X.K) W (lLc mi tm mt me vs) σ H Q) :
    tLc (tG X.K (RI X.K) W mi) (tGt X.K ts tm) (tG X.K RB W0 mt) (tG X.K (RD X.K) W0 me) vs σ H Q := by
  obtain ⟨μ, env, ah, he, hs, hp⟩ := h
  refine ⟨μ, env, ah, he, hs, hp.bind0 fun t ah1 μ1 J H1 e1 s1 r1 p1 => ?_⟩
  have ok1 : ItOk X.K μ1 H1 t J := r1
  intro p np
  have p1 := Post.ext e1 p1
  have h0 : H p = none := e1.there p np
  refine ⟨fun i n H' => ∃ μ' ah' acc avs, Ext X.K μ1 H1 μ' H' ∧ Sim X.K μ' H' ah' ∧ H' p = some (.lst avs) ∧ p ∉ μ'.tail ∧ Reps X.K μ' H' acc avs ∧ Post X.K (RL X.K) (fun c d H' => W c d σ H') μ1 H1 Q (lcLoop t tm mt me vs env (t.items.drop i) acc ah') ∧ i + n = t.items.length,
    ⟨t.items.length, μ1, ah1, [], [], Ext.other np, s1.other np, upd_same, s1.free np, Reps.nil, by rw [List.drop_zero]; exact p1, by omega⟩, ?_⟩
  rintro i n H' ⟨μ', ah', acc, avs, ex, S, hD, hm, ra, po, hn⟩
  have wf : ∀ {μ5 : List Addr} {H5 : Hp}, Ext X.K μ' H' μ5 H5 → H5 p = some (.lst avs) ∧ p ∉ μ5.tail := fun {μ5 H5} x5 => by
    refine ⟨x5.keep p _ hm hD, fun z => ?_⟩
    rcases x5.new p z with w | w
    · exact hm w
    · rw [hD] at w; cases w
  by_cases hi : i < t.items.length
  · have ed : t.items[i]? = some t.items[i] := List.getElem?_eq_getElem hi
    rw [List.drop_eq_getElem_cons hi] at po
    unfold lcLoop at po
    split at po
    · rename_i okb
      obtain ⟨go, yl⟩ := (ok1 i μ' H' ah' ex S okb.1).2 _ ed
      refine .inr ⟨go, _, fun H2 h => ⟨n - 1, by omega, h⟩, fun x H'' y => ?_⟩
      obtain ⟨ex2, S2, rx⟩ := yl x H'' y
      split at po
      · rename_i env1 et
        refine ⟨μ', wipeE env vs, ah', _, env1, (wipe_rel (he.ext (e1.trans (ex.trans ex2))) vs), S2, rx, et, fun σ2 he2 b2 => ?_⟩
        refine ⟨by rw [wipe_but b2 hts, wipe_wipe], ?_⟩
        have nxt : ∀ {μ5 : List Addr} {H5 : Hp} {a5 : AH}, Ext X.K μ' H'' μ5 H5 → Sim X.K μ5 H5 a5 → Post X.K (RL X.K) (fun c d H' => W c d σ H') μ1 H1 Q (lcLoop t tm mt me vs env (t.items.drop (i + 1)) acc a5) →
            ∃ μ' ah' acc avs, Ext X.K μ1 H1 μ' H5 ∧ Sim X.K μ' H5 ah' ∧ H5 p = some (.lst avs) ∧ p ∉ μ'.tail ∧ Reps X.K μ' H5 acc avs ∧ Post X.K (RL X.K) (fun c d H' => W c d σ H') μ1 H1 Q (lcLoop t tm mt me vs env (t.items.drop (i + 1)) acc ah') ∧ i + 1 + (n - 1) = t.items.length := fun {μ5 H5 a5} x5 s5 p5 =>
          let ⟨w1, w2⟩ := wf (ex2.trans x5)
          ⟨μ5, a5, acc, avs, (ex.trans ex2).trans x5, s5, w1, w2, ra.ext (ex2.trans x5), p5, by omega⟩
        cases qt : mt env1 ah' with
        | ok b ah2 =>
          rw [qt] at po
          cases b with
          | false =>
            refine ⟨μ', env1, ah', he2, S2, Post.only qt fun μ3 b3 H3 x3 s3 r3 => ?_⟩
            cases (show false = b3 from r3)
            rw [if_neg Bool.false_ne_true]
            exact nxt x3 s3 po
          | true =>
            refine ⟨μ', env1, ah', he2, S2, Post.only qt fun μ3 b3 H3 x3 s3 r3 => ?_⟩
            cases (show true = b3 from r3)
            rw [if_pos rfl]
            dsimp only at po
            cases qe : me env1 ah2 with
            | ok y ah3 =>
              rw [qe] at po
              refine ⟨μ3, env1, ah2, he2.ext x3, s3, Post.only qe fun μ4 y4 H4 x4 s4 r4 => ?_⟩
              obtain ⟨w1, w2⟩ := wf ((ex2.trans x3).trans x4)
              have ry : Rep X.K μ4 H4 y y4 := r4
              have ra4 := ra.ext ((ex2.trans x3).trans x4)
              refine ⟨avs, w1, Nat.lt_of_lt_of_le (by rw [← ra.length]; exact okb.2) (line_le (Nat.le_refl _)), μ4, ah3, acc ++ [y], avs ++ [y4], Ext.foreign (((ex.trans ex2).trans x3).trans x4) np w1, s4.foreign w2 w1, upd_same, w2, ?_, po, by omega⟩
              have tx : TExt X.K H4 (upd H4 p (.lst (avs ++ [y4]))) := TExt.mut (by rw [w1]; trivial)
              exact Reps.append (Reps.mono (List.prefix_refl _) tx _ _ ra4) (Reps.cons (Rep.mono (List.prefix_refl _) tx _ _ ry) Reps.nil)
            | exn c fs a3 => rw [qe] at po; exact po.elim
            | stuck => rw [qe] at po; exact po.elim
        | exn c fs a3 => rw [qt] at po; exact po.elim
        | stuck => rw [qt] at po; exact po.elim
      · exact po.elim
    · exact po.elim
  · have ez : t.items.drop i = [] := List.drop_eq_nil_of_le (by omega)
    rw [ez] at po
    unfold lcLoop at po
    split at po
    · rename_i okb
      refine .inl ⟨(ok1 i μ' H' ah' ex S okb).1 (by omega), ?_⟩
      exact po μ' _ H' ex S ⟨p, avs, rfl, np, hD, hm, ra⟩
    · exact po.elim
variable {elt tg iter : Expr} {ifs : List Expr} {scope : Scope} {own : List (Str × Nat)} {pos : Pos} {mi : EM Itm} {tm : TM} {ts : List Nat} {mt : EM Bool} {me : EM D}
theorem pl_lc (hc : X.calm = true) (hN : X.N.Nodup) (hi : PF X W tg iter mi) (ok : BlkOk X.N X.env.scope scope own) (hts : ∀ j ∈ ts, j ∈ own.map (·.2))
    (hg : ∀ (s : Shared) (H : Hp) (C : Addr) (cl : List (Str × Addr)) (fp : List Addr), PT1 (X.blk s H scope (compEnvC scope cl C X.env) fp) tg ts tm) (ht : ∀ (s : Shared) (H : Hp) (C : Addr) (cl : List (Str × Addr)) (fp : List Addr), PTsD (X.blk s H scope (compEnvC scope cl C X.env) fp) W0 ifs mt)
    (he : ∀ (s : Shared) (H : Hp) (C : Addr) (cl : List (Str × Addr)) (fp : List Addr), PD (X.blk s H scope (compEnvC scope cl C X.env) fp) W0 elt me) (hs : ∀ x, foldedSetIterable iter X.env x = pure x := by intro _; rfl) :
    PL X W (.ListComp elt [⟨tg, iter, ifs, 0⟩] scope pos) (lLc mi tm mt me (own.map (·.2))) :=
  PE.weak (pe_lc (g := tGt X.K ts tm) (tt := tG X.K RB W0 mt) (te := tG X.K (RD X.K) W0 me) hc hN hi ok hg ht he hs) fun _ _ _ q => lc_step hts q
theorem pz_setLc {i : Nat} {y : Str} {py spos : Pos} (hc : X.calm = true) (hN : X.N.Nodup) (hy : X.N[i]? = some y) (hyl : X.env.scope.names.lookup y = some .local)
    (hsw : swapsWith (.ListComp elt [⟨tg, iter, ifs, 0⟩] scope pos) (some (.Name y py)) spos.line X.env = pure true) (hi : PF X W tg iter mi) (ok : BlkOk X.N X.env.scope scope own) (hts : ∀ j ∈ ts, j ∈ own.map (·.2))
    (hg : ∀ (s : Shared) (H : Hp) (C : Addr) (cl : List (Str × Addr)) (fp : List Addr), PT1 (X.blk s H scope (compEnvC scope cl C X.env) fp) tg ts tm) (ht : ∀ (s : Shared) (H : Hp) (C : Addr) (cl : List (Str × Addr)) (fp : List Addr), PTsD (X.blk s H scope (compEnvC scope cl C X.env) fp) W0 ifs mt)
    (he : ∀ (s : Shared) (H : Hp) (C : Addr) (cl : List (Str × Addr)) (fp : List Addr), PD (X.blk s H scope (compEnvC scope cl C X.env) fp) W0 elt me) (hs : ∀ x, foldedSetIterable iter X.env x = pure x := by intro _; rfl) :
    PZ X W (.Assign [.Name y py] (.ListComp elt [⟨tg, iter, ifs, 0⟩] scope pos) spos) (sAsg (eNew (lLc mi tm mt me (own.map (·.2)))) (gSet i)) := by
  refine PS.weak (ps_setLc (g := tGt X.K ts tm) (tt := tG X.K RB W0 mt) (te := tG X.K (RD X.K) W0 me) hc hN hy hyl hsw hi ok hg ht he hs) fun D σ H q => ?_
  obtain ⟨μ, env, ah, he, hs, hp⟩ := q
  refine lc_step hts ?_
  refine ⟨μ, env, ah, he, hs, ?_⟩
  have z : PostS X.K W D μ H (((lLc mi tm mt me (own.map (·.2))) env ah).thenS env fun ds ah1 => .nx (env.set i (some (.ref ah1.length))) (ah1 ++ [.lst ds])) := by
    unfold sAsg eNew e1 at hp
    cases q : (lLc mi tm mt me (own.map (·.2))) env ah with
    | ok ds ah1 => rw [q] at hp; exact hp
    | exn c fs ah1 => rw [q] at hp; exact hp
    | stuck => rw [q] at hp; exact hp
  cases q : (lLc mi tm mt me (own.map (·.2))) env ah with
  | ok ds ah1 =>
    rw [q] at z
    intro μ1 x H1 e1 s1 r1
    obtain ⟨a, vs, rfl, h0, ha, hm, r⟩ := r1
    refine z (μ1 ++ [a]) _ H1 (e1.adopt h0 s1.mpos) (s1.adopt rfl hm ⟨vs, ha, Reps.mono (List.prefix_append _ _) TExt.refl ds vs r⟩) ?_
    refine EnvRel.set (he.ext (e1.adopt h0 s1.mpos)) ?_ i
    simp only [Rep]
    exact ⟨a, by rw [← s1.len]; simp, rfl⟩
  | exn c fs ah1 => rw [q] at z; exact fun μ' H' od e' s' x => z μ' σ H' od e' s' (he.ext e') x
  | stuck => rw [q] at z; exact z
end
end HA
namespace HA
open PySem PySem.Spec PyProof.Rows L2
def AObj.part1 : AObj → Nat × List D × List (Key × D)
  | .lst ds => (0, ds, [])
  | .ro ds => (1, ds, [])
  | .dK kvs => (2, [], kvs)
  | .dT _ => (3, [], [])
  | .ins _ _ => (4, [], [])
def AObj.part2 : AObj → List (List Key × D) × Str × List (Str × D)
  | .dT kvs => (kvs, "", [])
  | .ins C fs => ([], C, fs)
  | _ => ([], "", [])
instance : DecidableEq AObj := fun a b => decidable_of_iff (a.part1 = b.part1 ∧ a.part2 = b.part2) (by cases a <;> cases b <;> simp [AObj.part1, AObj.part2])
mutual
def D.und (n : Nat) : D → Bool
  | .ref m => decide (m < n)
  | .tup ds => D.unds n ds
  | .xv _ _ _ ds => D.unds n ds
  | _ => true
def D.unds (n : Nat) : List D → Bool
  | [] => true
  | d :: ds => D.und n d && D.unds n ds
end
theorem unds_all {n : Nat} : ∀ (ds : List D), D.unds n ds = ds.all (D.und n)
  | [] => rfl
  | d :: ds => by simp only [D.unds, List.all_cons, unds_all ds]
def AObj.und (n : Nat) : AObj → Bool
  | .lst ds => D.unds n ds
  | .ro ds => D.unds n ds
  | .dK kvs => D.unds n (kvs.map (·.2))
  | .dT kvs => D.unds n (kvs.map (·.2))
  | .ins _ fs => D.unds n (fs.map (·.2))
def sound (ah ah' : AH) : Bool := decide (ah'.take ah.length = ah) || (ah'.take ah.length).all (AObj.und ah.length)
def fin (ah : AH) (d : D) (ah' : AH) : Res D :=
  if ah'.length ≤ ah.length then .ok d ah' else if sound ah ah' = true then
    if d.und ah.length = true then .ok d (ah'.take ah.length) else match d with
      | .ref m => match ah'[m]? with
        | some o => if o.und ah.length = true then .ok (.ref ah.length) (ah'.take ah.length ++ [o]) else .ok d ah'
        | none => .ok d ah'
      | _ => .ok d ah'
  else .ok d ah'
def fsUnd (n : Nat) (fs : Option (List (Str × D))) : Bool := match fs with
  | none => true
  | some l => D.unds n (l.map (·.2))
def finX (ah : AH) (fs : Option (List (Str × D))) (ah' : AH) : AH := if ah'.length ≤ ah.length then ah' else if sound ah ah' = true ∧ fsUnd ah.length fs = true then ah'.take ah.length else ah'
section
variable {K : PySem.W.Frag} {μ μ' : List Addr} {H H' : Hp}
mutual
theorem Rep.cut {n : Nat} : ∀ (d : D) (v : V), d.und n = true → Rep K μ H d v → Rep K (μ.take n) H d v
  | .non, _, _, h => by simp only [Rep] at h ⊢; exact h
  | .bl b, _, _, h => by simp only [Rep] at h ⊢; exact h
  | .int i, _, _, h => by simp only [Rep] at h ⊢; exact h
  | .str x, _, _, h => by simp only [Rep] at h ⊢; exact h
  | .ref m, _, b, h => by
    simp only [Rep] at h ⊢
    obtain ⟨a, e, z⟩ := h
    simp only [D.und, decide_eq_true_eq] at b
    exact ⟨a, by rw [List.getElem?_take_of_lt b]; exact e, z⟩
  | .cst w, _, _, h => by simp only [Rep] at h ⊢; exact h
  | .glo w, _, _, h => by simp only [Rep] at h ⊢; exact h
  | .xv a d ks ds, _, b, h => by
    simp only [D.und] at b
    simp only [Rep] at h ⊢
    obtain ⟨e, vs, q, r⟩ := h
    exact ⟨e, vs, q, Reps.cutB ds vs b r⟩
  | .tup ds, _, b, h => by
    simp only [Rep] at h ⊢
    obtain ⟨a, vs, e, q, r⟩ := h
    exact ⟨a, vs, e, q, Reps.cutB ds vs b r⟩
theorem Reps.cutB {n : Nat} : ∀ (ds : List D) (vs : List V), D.unds n ds = true → Reps K μ H ds vs → Reps K (μ.take n) H ds vs
  | [], _, _, h => by simp only [Reps] at h ⊢; exact h
  | d :: ds, _, b, h => by
    simp only [Reps] at h ⊢
    obtain ⟨w, ws, e, r, t⟩ := h
    simp only [D.unds, Bool.and_eq_true] at b
    exact ⟨w, ws, e, Rep.cut d w b.1 r, Reps.cutB ds ws b.2 t⟩
end
mutual
theorem Rep.und : ∀ (d : D) (v : V), Rep K μ H d v → d.und μ.length = true
  | .non, _, _ => rfl
  | .bl b, _, _ => rfl
  | .int i, _, _ => rfl
  | .str x, _, _ => rfl
  | .ref m, _, h => by
    simp only [Rep] at h
    obtain ⟨a, e, z⟩ := h
    simp only [D.und, decide_eq_true_eq]
    exact (List.getElem?_eq_some_iff.mp e).1
  | .cst w, _, _ => rfl
  | .glo w, _, _ => rfl
  | .xv a d ks ds, _, h => by
    simp only [Rep] at h
    obtain ⟨e, vs, q, r⟩ := h
    exact Reps.unds ds vs r
  | .tup ds, _, h => by
    simp only [Rep] at h
    obtain ⟨a, vs, e, q, r⟩ := h
    exact Reps.unds ds vs r
theorem Reps.unds : ∀ (ds : List D) (vs : List V), Reps K μ H ds vs → D.unds μ.length ds = true
  | [], _, _ => rfl
  | d :: ds, _, h => by
    simp only [Reps] at h
    obtain ⟨w, ws, e, r, t⟩ := h
    simp only [D.unds, Bool.and_eq_true]
    exact ⟨Rep.und d w r, Reps.unds ds ws t⟩
end
theorem OOk.cut {n : Nat} {a : Addr} : ∀ {o : AObj}, o.und n = true → OOk K μ H a o → OOk K (μ.take n) H a o
  | .lst ds, b, ⟨vs, e, r⟩ => ⟨vs, e, Reps.cutB _ _ b r⟩
  | .ro ds, b, ⟨vs, e, r⟩ => ⟨vs, e, Reps.cutB _ _ b r⟩
  | .dK ds, b, ⟨vs, e, k, r⟩ => ⟨vs, e, k, Reps.cutB _ _ b r⟩
  | .dT ds, b, ⟨vs, e, k, r⟩ => ⟨vs, e, k, Reps.cutB _ _ b r⟩
  | .ins C ds, b, ⟨dx, vs, e, k, r⟩ => ⟨dx, vs, e, k, Reps.cutB _ _ b r⟩
theorem OOk.und {a : Addr} : ∀ {o : AObj}, OOk K μ H a o → o.und μ.length = true
  | .lst ds, ⟨vs, e, r⟩ => Reps.unds _ _ r
  | .ro ds, ⟨vs, e, r⟩ => Reps.unds _ _ r
  | .dK ds, ⟨vs, e, k, r⟩ => Reps.unds _ _ r
  | .dT ds, ⟨vs, e, k, r⟩ => Reps.unds _ _ r
  | .ins C ds, ⟨dx, vs, e, k, r⟩ => Reps.unds _ _ r
theorem Sim.below {ah : AH} (S : Sim K μ H ah) : ah.all (AObj.und ah.length) = true := by
  rw [List.all_eq_true]
  intro o ho
  obtain ⟨n, hn⟩ := List.getElem?_of_mem ho
  obtain ⟨a, _, r⟩ := S.at hn
  rw [← S.len]
  exact r.und
theorem Sim.cut {ah : AH} (S : Sim K μ H ah) {n : Nat} (h0 : 0 < n) (hb : (ah.take n).all (AObj.und n) = true) : Sim K (μ.take n) H (ah.take n) := by
  have gm : ∀ {i : Nat} {a : Addr}, (μ.take n)[i]? = some a → i < n ∧ μ[i]? = some a := fun {i a} e => by
    have : i < n := by
      have := (List.getElem?_eq_some_iff.mp e).1
      rw [List.length_take] at this
      omega
    rw [List.getElem?_take_of_lt this] at e
    exact ⟨this, e⟩
  have ga : ∀ {i : Nat} {a : AObj}, (ah.take n)[i]? = some a → i < n ∧ ah[i]? = some a := fun {i a} e => by
    have : i < n := by
      have := (List.getElem?_eq_some_iff.mp e).1
      rw [List.length_take] at this
      omega
    rw [List.getElem?_take_of_lt this] at e
    exact ⟨this, e⟩
  refine ⟨by rw [List.length_take, List.length_take, S.len], fun i j a o o' e1 e2 e3 e4 => S.nd i j a o o' (gm e1).2 (gm e2).2 (ga e3).2 (ga e4).2, fun i a o e1 e2 => ?_, ?_, fun i o e => S.ro0 i o (ga e).2⟩
  · exact (S.ok i a o (gm e1).2 (ga e2).2).cut (by rw [List.all_eq_true] at hb; exact hb o (List.mem_of_getElem? e2))
  · rw [List.length_take]
    have := S.pos
    omega
theorem Ext.take (e : Ext K μ H μ' H') : μ'.take μ.length = μ := by
  obtain ⟨t, rfl⟩ := e.pre
  simp
theorem Ext.back (e : Ext K μ H μ' H') : Ext K μ H μ H' := ⟨List.prefix_refl _, e.tup, fun _ h => .inl h, e.keep, e.there⟩
theorem Sim.old {ah ah' : AH} (S : Sim K μ H ah) (e : Ext K μ H μ' H') (S' : Sim K μ' H' ah') (hb : sound ah ah' = true) : Sim K μ H' (ah'.take ah.length) := by
  have := S'.cut (n := ah.length) S.pos (by
    unfold sound at hb
    rw [Bool.or_eq_true] at hb
    rcases hb with h | h
    · rw [decide_eq_true_eq] at h; rw [h]; exact S.below
    · exact h)
  rw [← S.len, e.take] at this
  rw [← S.len]
  exact this
theorem fin_run {Wx : Value → Option Addr → Hp → Prop} {Q : VK} {ah ah' : AH} {d : D} {v : V} (S : Sim K μ H ah) (e : Ext K μ H μ' H') (S' : Sim K μ' H' ah') (r : Rep K μ' H' d v) (hp : Post K (RD K) Wx μ H Q (fin ah d ah')) : Q v H' := by
  unfold fin at hp
  have all : Post K (RD K) Wx μ H Q (.ok d ah') → Q v H' := fun hp => hp μ' v H' e S' r
  split at hp
  · exact all hp
  · split at hp
    · rename_i hs
      split at hp
      · rename_i hd
        have := Rep.cut d v hd r
        rw [← S.len, e.take] at this
        exact hp μ v H' e.back (S.old e S' hs) this
      · rename_i hd
        split at hp
        · rename_i m
          split at hp
          · rename_i o eo
            split at hp
            · rename_i hb
              obtain ⟨a, ea, rfl⟩ := d_ref r
              have hm : ah.length ≤ m := by simpa [D.und] using hd
              have hr : o.isRo = false := by
                cases q : o.isRo with
                | false => rfl
                | true => have := (S'.ro0 m o eo).mp q; have := S.pos; omega
              have ha : a ∉ μ.tail := fun z => by
                obtain ⟨j, hj⟩ := List.getElem?_of_mem z
                rw [List.getElem?_tail] at hj
                have lj : j + 1 < ah.length := by have := (List.getElem?_eq_some_iff.mp hj).1; rw [S.len] at this; exact this
                have hj' := pre_get e.pre hj
                have : j + 1 < ah'.length := by have := (List.getElem?_eq_some_iff.mp hj').1; rw [S'.len] at this; exact this
                have eo' : ah'[j + 1]? = some ah'[j + 1] := List.getElem?_eq_getElem this
                have r' : (ah'[j + 1]).isRo = false := by
                  cases q : (ah'[j + 1]).isRo with
                  | false => rfl
                  | true => have := (S'.ro0 _ _ eo').mp q; omega
                have := S'.nd m (j + 1) a o _ ea hj' eo eo' hr r'
                omega
              have at' : a ∈ μ'.tail := by
                obtain ⟨k, rfl⟩ : ∃ k, m = k + 1 := ⟨m - 1, by have := S.pos; omega⟩
                exact List.mem_of_getElem? (i := k) (by rw [List.getElem?_tail]; exact ea)
              have h0 : H a = none := (e.new a at').resolve_left ha
              have ok := (S'.ok m a o ea eo).cut (n := ah.length) hb
              rw [← S.len, e.take] at ok
              have ok2 : OOk K (μ ++ [a]) H' a o := ok.mono (List.prefix_append _ _) TExt.refl (fun _ => rfl) fun _ _ z => z
              refine hp (μ ++ [a]) (.ref a) H' (e.back.adopt h0 S.mpos) ((S.old e S' hs).adopt hr ha ok2) ?_
              show Rep K (μ ++ [a]) H' (.ref ah.length) (.ref a)
              simp only [Rep]
              exact ⟨a, by rw [← S.len]; simp, rfl⟩
            · exact all hp
          · exact all hp
        · exact all hp
    · exact all hp
theorem finX_run {Wx : Value → Option Addr → Hp → Prop} {Q : VK} {ah ah' : AH} {c : Str} {fs : Option (List (Str × D))} {od : Option Addr} (S : Sim K μ H ah) (e : Ext K μ H μ' H') (S' : Sim K μ' H' ah') (r : ExnOk K μ' H' fs od) (hp : Post K (RD K) Wx μ H Q (.exn c fs (finX ah fs ah'))) : Wx (.ref (gA K c)) od H' := by
  unfold finX at hp
  have all : Post K (RD K) Wx μ H Q (.exn c fs ah') → Wx (.ref (gA K c)) od H' := fun hp => hp μ' H' od e S' r
  split at hp
  · exact all hp
  · split at hp
    · rename_i hs
      refine hp μ H' od e.back (S.old e S' hs.1) ?_
      cases fs with
      | none => exact r
      | some l =>
        obtain ⟨d, fws, h1, h2, h3, h4⟩ := r
        refine ⟨d, fws, h1, h2, h3, ?_⟩
        have := Reps.cutB (n := ah.length) _ _ hs.2 h4
        rw [← S.len, e.take] at this
        exact this
    · exact all hp
end
theorem fin_same (ah : AH) (d : D) : fin ah d ah = .ok d ah := by unfold fin; rw [if_pos (Nat.le_refl _)]
theorem fin_len {ah ah' : AH} (d : D) (h : ah'.length = ah.length) : fin ah d ah' = .ok d ah' := by unfold fin; rw [if_pos (Nat.le_of_eq h)]
end HA
namespace HA
open PySem PySem.Spec PyProof.Rows L2
def fnM (n ar : Nat) (mb : SM) (ds : List D) (ah : AH) : Res D := if ds.length = ar then match mb (ds.map some ++ List.replicate (n - ds.length) none) ah with
  | .nx _ ah' => fin ah .non ah'
  | .rt d ah' => fin ah d ah'
  | .exn c fs _ ah' => .exn c fs (finX ah fs ah')
  | _ => .stuck else .stuck
def fnR (n ar : Nat) (mb : SM) (ds : List D) (ah : AH) : Res D := if ds.length = ar then match mb (ds.map some ++ List.replicate (n - ds.length) none) ah with
  | .nx _ ah' => .ok .non ah'
  | .rt d ah' => .ok d ah'
  | .exn c fs _ ah' => .exn c fs ah'
  | _ => .stuck else .stuck
structure FnG (P : Program) (w : World) (K : PySem.W.Frag) (mg : Str → Option Value) (base : Heap) (k : Nat) (f : Addr) (fd : FuncData) (ps : List Str) (m : List D → AH → Res D) : Prop where
  run : ∀ (A : Around) (lo : List PySem.Env) (s : Shared) (H : Hp) (args : Args) (us : List Value) (vs : List V) (Q : VK) (E : XK) (μ : List Addr) (ds : List D) (ah : AH), Rm k A → Env0 P w K mg base A lo s H → BindsTo s fd args (ps.zip us) → Vals vs us → vs.length = ps.length →
    Sim K μ H ah → Reps K μ H ds vs → Post K (RD K) (fun c d H' => E c d H') μ H Q (m ds ah) → codeAny (model P w) A (.call (.ref f) args) (CR (CXf K P w) lo P w H s Q E) s
section
variable {P : Program} {w : World} {K : PySem.W.Frag} {mg : Str → Option Value} {base : Heap}
theorem FnG.mono {j k : Nat} {f : Addr} {fd : FuncData} {ps : List Str} {m : List D → AH → Res D} (F : FnG P w K mg base j f fd ps m) (h : j ≤ k) : FnG P w K mg base k f fd ps m :=
  ⟨fun A lo s H args us vs Q E μ ds ah hr => F.run A lo s H args us vs Q E μ ds ah (hr.mono h)⟩
theorem rm_deeper {k : Nat} {A : Around} (r : Rm (k + 1) A) (env : PySem.Env) : Rm k (A.deeper env) := ⟨r.room.deeper env, r.gd⟩
theorem fnG_R {x qual : Str} {st : Stmt} {f : Addr} {fd : FuncData} {N ps : List Str} {k : Nat} {mb : SM} (F : Fun K x qual st f fd) (S : FnScope N ps (defScope st))
    (body : ∀ (cdv : Value) (A : Around) (lo : List PySem.Env) (s : Shared) (H : Hp) (E : XK), Rm k (A.deeper (envOfC qual (defScope st) s.heap.objs.size f cdv)) → PZs (cxOf (CXf K P w) P w K mg base N qual (defScope st) f cdv A lo s H E) (fun c d _ H' => E c d H') (defBody st) mb) :
    FnG P w K mg base (k + 1) f fd ps (fnR N.length ps.length mb) := by
  obtain ⟨oc, od, kV, doc, pm, an, cdv, ct, osl, rfl, lk, hcd⟩ := F.ex
  refine ⟨fun A lo s H args us vs Q E μ ds ah hr e0 hb rv hl hS rd hp => ?_⟩
  have KX : K.In s.heap := e0.mod.kin.keeps fun b o e => (e0.bs b o e).1
  have nl : s.heap.NoLimit := e0.mod.nolimit.keeps fun b o e => (e0.bs b o e).1
  have par : ∀ y ∈ ps.zip us, (defScope st).names.lookup y.1 = some .local ∨ ((defScope st).names.lookup y.1 = some .cell ∧ ((cellsFrom (s.heap.objs.size + 1) (defScope st).names []).lookup y.1).isSome = true) := fun p hp => by
    rcases S.par p.1 (List.of_mem_zip hp).1 with q | q
    · exact .inl q
    · exact .inr ⟨q, PySem.W.cellsFrom_some _ _ _ (.inl q)⟩
  refine codeAny_call_function hr.room.depth (KX _ _ lk) rfl S.co S.gen rfl (PySem.W.codeRec_of KX hcd) (hb _ _ _ _ ?_)
  refine wpAny_newFunctionEnv_cells S.kind par fun env he s1 x1 => ?_
  subst he
  refine ⟨nl.keeps x1.toInCall.keep, codeAny_func ?_⟩
  have I : Inv (cxOf (CXf K P w) P w K mg base N qual (defScope st) f cdv A lo s H E) [] (L2.start N vs) H s1 := inv_start S hr.room.hd e0 hl rv x1
  have lds : ds.length = ps.length := rd.length.trans hl
  have hpl : ps.length ≤ N.length := by
    have z := congrArg List.length S.pre
    rw [List.length_take] at z
    omega
  have eS : EnvRel K μ H (ds.map some ++ List.replicate (N.length - ds.length) none) (L2.start N vs) := by
    unfold L2.start
    refine ⟨by simp only [List.length_append, List.length_map, List.length_replicate]; rw [lds, hl], fun i d e => ?_⟩
    by_cases hi : i < ds.length
    · rw [List.getElem?_append_left (by simpa using hi), List.getElem?_map] at e
      cases q : ds[i]? with
      | none => rw [q] at e; cases e
      | some z =>
        rw [q] at e; cases e
        obtain ⟨v, ev, r⟩ := rd.get q
        exact ⟨v, by rw [List.getElem?_append_left (by rw [List.length_map, ← rd.length]; exact hi), List.getElem?_map, ev]; rfl, r⟩
    · rw [List.getElem?_append_right (by simpa using hi), List.getElem?_replicate] at e
      split at e <;> cases e
  have fin : ∀ {σ' : L2.St} {H' : Hp} {s' : Shared} {v : V} {u : Value}, Inv (cxOf (CXf K P w) P w K mg base N qual (defScope st) f cdv A lo s H E) [] σ' H' s' → RelV v u → Q v H' → CE lo P w H s Q u s' := fun {σ' H' s' v u} J r q => ⟨v, H', J.os, J.bare, J.base, J.hok, r, q⟩
  let DD : Ends := { nx := fun _ H' => Q .non H', rt := Q }
  have po : PostS K (fun c d _ H' => E c d H') DD μ H (mb (ds.map some ++ List.replicate (N.length - ds.length) none) ah) := by
    unfold fnR at hp
    rw [if_pos lds] at hp
    cases q : mb (ds.map some ++ List.replicate (N.length - ds.length) none) ah with
    | nx env' ah' => rw [q] at hp; exact fun μ' σ' H' e' s' _ => hp μ' .non H' e' s' r_non
    | rt d ah' => rw [q] at hp; exact fun μ' v H' e' s' r => hp μ' v H' e' s' r
    | bk env' ah' => rw [q] at hp; exact hp.elim
    | ct env' ah' => rw [q] at hp; exact hp.elim
    | exn c fs env' ah' => rw [q] at hp; exact fun μ' σ' H' od e' s' _ z => hp μ' H' od e' s' z
    | stuck => rw [q] at hp; exact hp.elim
  refine wpAny_mono ((body cdv A lo s H E (rm_deeper hr _)).run [] s1 (L2.start N vs) H DD I ⟨μ, _, ah, eS, hS, po⟩) (fun fl s' hs => ?_) fun e s' z => z
  cases fl with
  | ret u => obtain ⟨v, σ', H', J, r, q⟩ := hs; exact fin J r q
  | next => obtain ⟨σ', H', J, q⟩ := hs; exact fin (v := V.non) (u := Value.none) J rfl q
  | brk => obtain ⟨_, _, _, q⟩ := hs; exact q.elim
  | cont => obtain ⟨_, _, _, q⟩ := hs; exact q.elim
theorem fnG {x qual : Str} {st : Stmt} {f : Addr} {fd : FuncData} {N ps : List Str} {k : Nat} {mb : SM} (F : Fun K x qual st f fd) (S : FnScope N ps (defScope st))
    (body : ∀ (cdv : Value) (A : Around) (lo : List PySem.Env) (s : Shared) (H : Hp) (E : XK), Rm k (A.deeper (envOfC qual (defScope st) s.heap.objs.size f cdv)) → PZs (cxOf (CXf K P w) P w K mg base N qual (defScope st) f cdv A lo s H E) (fun c d _ H' => E c d H') (defBody st) mb) :
    FnG P w K mg base (k + 1) f fd ps (fnM N.length ps.length mb) := by
  have G := fnG_R F S body
  refine ⟨fun A lo s H args us vs Q E μ ds ah hr e0 hb rv hl hS rd hp => G.run A lo s H args us vs Q E μ ds ah hr e0 hb rv hl hS rd ?_⟩
  unfold fnM at hp
  unfold fnR
  split at hp
  · rename_i h
    rw [if_pos h]
    cases q : mb (ds.map some ++ List.replicate (N.length - ds.length) none) ah with
    | nx env' ah' => rw [q] at hp; exact fun μ' v H' e' s' r => fin_run hS e' s' r hp
    | rt d ah' => rw [q] at hp; exact fun μ' v H' e' s' r => fin_run hS e' s' r hp
    | bk env' ah' => rw [q] at hp; exact hp.elim
    | ct env' ah' => rw [q] at hp; exact hp.elim
    | exn c fs env' ah' => rw [q] at hp; exact fun μ' H' od e' s' z => finX_run hS e' s' z hp
    | stuck => rw [q] at hp; exact hp.elim
  · exact hp.elim
end
section
variable {X : Cx} {W : WX} {k : Nat} {f : Addr} {fd : FuncData} {ps ks : List Str} {m : List D → AH → Res D} {x : Str} {p pos : Pos} {e : Expr} {es : List Expr} {ml mk : EM (List D)} {kws : List Keyword}
theorem run_G {pins : List (Addr × Obj)} {σ : L2.St} {H : Hp} {s : Shared} {Q : VK} {us : List Value} {vs : List V} {args : Args} {μ : List Addr} {ds : List D} {ah : AH} (F : FnG X.prog X.w X.K X.mg X.base k f fd ps m) (hr : Rm k X.A) (tk : Takes X W) (I : Inv X pins σ H s)
    (hb : BindsTo s fd args (ps.zip us)) (hl : vs.length = ps.length) (r : Vals vs us) (S : Sim X.K μ H ah) (rd : Reps X.K μ H ds vs) (hp : Post X.K (RD X.K) (fun c d H' => W c d σ H') μ H Q (m ds ah)) :
    codeAny (model X.prog X.w) X.A (.call (.ref f) args) (fun r s' => match r with
      | .ok (.ret u) => EP X pins σ Q u s'
      | .ok _ => False
      | .error e => X.xe e s') s := by
  refine codeAny_mono (F.run X.A X.stack s H args us vs Q (WE W σ) μ ds ah hr I.env0 hb r hl S rd hp) fun r s' hq => ?_
  cases r with
  | error e => exact passF tk σ pins H s e s' I hq
  | ok fl =>
    cases fl with
    | ret u => exact I.after hq
    | next => exact hq
    | brk => exact hq
    | cont => exact hq
theorem call_G {pins : List (Addr × Obj)} {σ : L2.St} {H : Hp} {s : Shared} {Q : VK} {us : List Value} {vs : List V} {kw : List (Str × Value)} {us' : List Value} {μ : List Addr} {ds : List D} {ah : AH} (F : FnG X.prog X.w X.K X.mg X.base k f fd ps m) (hr : Rm k X.A) (tk : Takes X W) (I : Inv X pins σ H s)
    (hb : BindsTo s fd ⟨us', kw⟩ (ps.zip us)) (hl : vs.length = ps.length) (r : Vals vs us) (S : Sim X.K μ H ah) (rd : Reps X.K μ H ds vs) (hp : Post X.K (RD X.K) (fun c d H' => W c d σ H') μ H Q (m ds ah)) :
    wpAny (model X.prog X.w) X.A (call (.ref f) us' kw) (EP X pins σ Q) X.xe s := by
  refine wpAny_call (codeAny_mono (run_G F hr tk I hb hl r S rd hp) fun r s' hq => ?_)
  cases r with
  | error e => exact hq
  | ok fl =>
    cases fl with
    | ret u => exact hq
    | next => exact hq.elim
    | brk => exact hq.elim
    | cont => exact hq.elim
def Many (n : Nat) (ml : EM (List D)) : Prop := ∀ env ah ds ah', ml env ah = .ok ds ah' → ds.length = n
theorem many_nil : Many 0 aNil := fun env ah ds ah' h => by cases h; rfl
theorem many_cons {n : Nat} {me : EM D} (h : Many n ml) : Many (n + 1) (aCons me ml) := fun env ah ds ah' e => by
  unfold aCons at e
  cases q : me env ah with
  | ok x a1 =>
    rw [q] at e
    cases q2 : ml env a1 with
    | ok xs a2 =>
      rw [Res.bind_ok, q2, Res.bind_ok] at e
      cases e
      rw [List.length_cons, h _ _ _ _ q2]
    | exn c fs a3 => rw [Res.bind_ok, q2] at e; cases e
    | stuck => rw [Res.bind_ok, q2] at e; cases e
  | exn c fs a4 => rw [q] at e; cases e
  | stuck => rw [q] at e; cases e
theorem Post.many {K : PySem.W.Frag} {Wx : Value → Option Addr → Hp → Prop} {μ : List Addr} {H : Hp} {Q : List V → Hp → Prop} {env : Env} {ah : AH} {n : Nat} (hm : Many n ml) (h : Post K (RA K) Wx μ H (fun vs H' => vs.length = n → Q vs H') (ml env ah)) : Post K (RA K) Wx μ H Q (ml env ah) := by
  cases q : ml env ah with
  | ok ds a1 =>
    rw [q] at h
    exact fun μ' vs H' e s r => h μ' vs H' e s r (by rw [← Reps.length (show Reps K μ' H' ds vs from r)]; exact hm env ah ds a1 q)
  | exn c fs a1 => rw [q] at h; exact h
  | stuck => rw [q] at h; exact h
theorem pd_call (F : FnG X.prog X.w X.K X.mg X.base k f fd ps m) (hr : Rm k X.A) (hg : Gl X x) (hm : X.mg x = some (.ref f)) (hk : PySem.W.keepIn X.K (.ref f) = true) (hb : Binds X.K fd ps []) (tk : Takes X W) (ha : PAs X W (e :: es) ml) (hn : Many ps.length ml)
    (hdb : (x == ("__debug__" : Str)) = false := by decide) (he : starEach (e :: es) X.env = (false, eval e X.env) :: starEach es X.env := by rfl) (hpl : (backTo pos (starEach es X.env)).any (·.1) = false := by rfl) : PD X W (.Call (.Name x p) (e :: es) [] pos) (e1 ml m) := by
  refine ⟨fun pins s σ H Q I h => ?_⟩
  obtain ⟨μ, env, ah, hE, hs, hp⟩ := h
  refine wpAny_Call_Name_kw (ld_glob I hg hm ?_ hdb)
  refine PySem.W.callWith_K (h₀ := X.base) I.ok.mod.kin hk (thn (ha.run pos pins s σ H (fun vs H1 => vs.length = ps.length ∧ ∃ μ1 ah1 ds, Sim X.K μ1 H1 ah1 ∧ Reps X.K μ1 H1 ds vs ∧ Post X.K (RD X.K) (fun c d H' => W c d σ H') μ1 H1 Q (m ds ah1)) I
    ⟨μ, env, ah, hE, hs, Post.many hn (hp.bind fun ds ah1 μ1 vs H1 e1 s1 r1 p1 hl => ⟨hl, μ1, ah1, ds, s1, r1, p1⟩)⟩) fun us s1 hz => ?_) he hpl
  obtain ⟨vs, H1, I1, r, hl, μ1, ah1, ds, s1', rd, p1⟩ := hz
  refine ⟨I1.kIn, ?_⟩
  have b := hb s1 us I1.kIn (by rw [List.append_nil, ← r.length]; exact hl)
  rw [List.append_nil] at b
  exact call_G F hr tk I1 b hl r s1' rd p1
theorem pd_call0 (F : FnG X.prog X.w X.K X.mg X.base k f fd [] m) (hr : Rm k X.A) (hg : Gl X x) (hm : X.mg x = some (.ref f)) (hk : PySem.W.keepIn X.K (.ref f) = true) (hb : Binds X.K fd [] []) (tk : Takes X W) (hdb : (x == ("__debug__" : Str)) = false := by decide) : PD X W (.Call (.Name x p) [] [] pos) (fun _ ah => m [] ah) := by
  refine ⟨fun pins s σ H Q I h => ?_⟩
  obtain ⟨μ, env, ah, hE, hs, hp⟩ := h
  refine wpAny_Call_Name_kw (ld_glob I hg hm ?_ hdb)
  refine PySem.W.callWith_K0 I.kIn hk ?_
  have b := hb s [] I.kIn rfl
  exact call_G (us' := []) (kw := []) (us := []) (vs := []) F hr tk I b rfl .nil hs Reps.nil hp
end
end HA
namespace HA
open PySem PySem.Spec PyProof.Rows L2
abbrev LT := Sum (List D) Nat
def RLT (K : PySem.W.Frag) : Rel LT V := ⟨fun _ μ H t v => match t with
  | .inl ds => ∃ a vs, v = .ref a ∧ H a = some (.lst vs) ∧ a ∉ μ.tail ∧ Reps K μ H ds vs
  | .inr n => Rep K μ H (.ref n) v, fun _ h => h⟩
def PLT (X : Cx) (W : WX) (e : Expr) (m : EM LT) : Prop := PE X e (tG X.K (RLT X.K) W m)
def ltOf (t : LT) (ah : AH) : Option (List D) := match t with
  | .inl ds => some ds
  | .inr n => match ah[n]? with
    | some (.lst ds) => some ds
    | _ => none
theorem rlt_ext {K : PySem.W.Frag} {μ μ1 : List Addr} {H H1 : Hp} {t : LT} {v : V} {H₀ H₁ : Hp} (h : (RLT K).r H₀ μ H t v) (e : Ext K μ H μ1 H1) : (RLT K).r H₁ μ1 H1 t v := by
  cases t with
  | inl ds =>
    obtain ⟨a, vs, ev, ha, hm, r⟩ := h
    refine ⟨a, vs, ev, e.keep a _ hm ha, fun z => ?_, r.ext e⟩
    rcases e.new a z with w | w
    · exact hm w
    · rw [ha] at w; cases w
  | inr n => exact Rep.ext (show Rep K μ H (.ref n) v from h) e
theorem rlt_at {K : PySem.W.Frag} {μ : List Addr} {H : Hp} {ah : AH} {t : LT} {v : V} {ds : List D} {H₀ : Hp} (S : Sim K μ H ah) (h : (RLT K).r H₀ μ H t v) (e : ltOf t ah = some ds) : ∃ a vs, v = .ref a ∧ H a = some (.lst vs) ∧ Reps K μ H ds vs := by
  cases t with
  | inl xs =>
    obtain ⟨a, vs, ev, ha, hm, r⟩ := h
    cases e
    exact ⟨a, vs, ev, ha, r⟩
  | inr n =>
    obtain ⟨a, ea, rfl⟩ := d_ref (show Rep K μ H (.ref n) v from h)
    unfold ltOf at e
    dsimp only at e
    split at e
    · rename_i xs q
      cases e
      obtain ⟨vs, h1, r⟩ := S.ok n a _ ea q
      exact ⟨a, vs, rfl, h1, r⟩
    · cases e
section
variable {X : Cx} {W : WX} {k : Nat} {e : Expr} {es : List Expr} {m : EM D} {ml : EM (List D)} {pos : Pos}
def tNew (m : EM (List D)) : EM LT := e1 m fun ds ah => .ok (.inl ds) ah
def tOur (m : EM D) : EM LT := e1 m fun d ah => match d with
  | .ref n => .ok (.inr n) ah
  | _ => .stuck
theorem plt_l (h : PL X W e ml) : PLT X W e (tNew ml) := by
  refine PE.weak h fun σ H Q ⟨μ, env, ah, he, hs, hp⟩ => ?_
  refine ⟨μ, env, ah, he, hs, hp.bind fun ds ah1 μ1 x H1 e1 s1 r1 p1 => ?_⟩
  obtain ⟨a, vs, rfl, _, ha, hm, r⟩ := r1
  exact Post.ok1 (R := RLT X.K) p1 s1 ⟨a, vs, rfl, ha, hm, r⟩
theorem plt_d (h : PD X W e m) : PLT X W e (tOur m) := by
  refine PE.weak h fun σ H Q ⟨μ, env, ah, he, hs, hp⟩ => ?_
  refine ⟨μ, env, ah, he, hs, hp.bind fun d ah1 μ1 x H1 e1 s1 r1 p1 => ?_⟩
  cases d with
  | ref n => exact Post.ok1 (R := RLT X.K) p1 s1 r1
  | _ => exact p1.elim
def lCat (x y : LT) (ah : AH) : Res (List D) := match ltOf x ah, ltOf y ah with
  | some xs, some ys => if xs.length + ys.length ≤ line then .ok (xs ++ ys) ah else .stuck
  | _, _ => .stuck
theorem pl_cat {a b : Expr} {ma mb : EM LT} (ha : PLT X W a ma) (hb : PLT X W b mb) : PL X W (.BinOp a .Add b pos) (e2 ma mb lCat) := by
  refine PE.weak (pe_op op_cat ha hb) fun σ H Q ⟨μ, env, ah, he, hs, hp⟩ => ?_
  refine ⟨μ, env, ah, he, hs, hp.bind0 fun t ah1 μ1 x H1 e1 s1 r1 p1 => ?_⟩
  have p1 := Post.ext e1 p1
  refine tG_next he e1 s1 (p1.bind fun u ah2 μ2 y H2 e2 s2 r2 p2 => ?_)
  unfold lCat at p2
  split at p2
  · rename_i xs ys q1 q2
    split at p2
    · rename_i hl
      obtain ⟨a, vs, rfl, hA, rA⟩ := rlt_at s2 (rlt_ext (H₁ := H) r1 e2) q1
      obtain ⟨b, ws, rfl, hB, rB⟩ := rlt_at s2 r2 q2
      exact ⟨a, b, vs, ws, rfl, rfl, hA, hB, line_le (by rw [← rA.length, ← rB.length]; exact hl), fun p np => Post.newL p2 s2 (rA.append rB) np⟩
    · exact p2.elim
  · exact p2.elim
def lRep (x : LT) (y : D) (ah : AH) : Res (List D) := match ltOf x ah, y with
  | some xs, .int k => if -(2 ^ 63) ≤ k ∧ k < 2 ^ 63 ∧ xs.length * k.toNat ≤ line then .ok (List.replicate k.toNat xs).flatten ah else .stuck
  | _, _ => .stuck
theorem reps_rep {K : PySem.W.Frag} {μ : List Addr} {H : Hp} {xs : List D} {vs : List V} (r : Reps K μ H xs vs) : ∀ n : Nat, Reps K μ H (List.replicate n xs).flatten (List.replicate n vs).flatten
  | 0 => Reps.nil
  | n + 1 => by rw [List.replicate_succ, List.replicate_succ, List.flatten_cons, List.flatten_cons]; exact r.append (reps_rep r n)
theorem pl_rep {a b : Expr} {ma : EM LT} {mb : EM D} (ha : PLT X W a ma) (hb : PD X W b mb) : PL X W (.BinOp a .Mult b pos) (e2 ma mb lRep) := by
  refine PE.weak (pe_op op_rep ha hb) fun σ H Q ⟨μ, env, ah, he, hs, hp⟩ => ?_
  refine ⟨μ, env, ah, he, hs, hp.bind0 fun t ah1 μ1 x H1 e1 s1 r1 p1 => ?_⟩
  have p1 := Post.ext e1 p1
  refine tG_next he e1 s1 (p1.bind fun u ah2 μ2 y H2 e2 s2 r2 p2 => ?_)
  unfold lRep at p2
  split at p2
  · rename_i xs k q1
    split at p2
    · rename_i hl
      obtain ⟨a, vs, rfl, hA, rA⟩ := rlt_at s2 (rlt_ext (H₁ := H) r1 e2) q1
      rw [d_int (show Rep X.K μ2 H2 (.int k) y from r2)]
      exact ⟨a, k, vs, rfl, rfl, hA, hl.1, hl.2.1, line_le (by rw [← rA.length]; exact hl.2.2), fun p np => Post.newL p2 s2 (reps_rep rA _) np⟩
    · exact p2.elim
  · exact p2.elim
theorem list_sr {pins : List (Addr × Obj)} {σ : L2.St} {μ : List Addr} {H : Hp} {s : Shared} {ah : AH} {f : Nat} {ds : List D} {ps : List PyData} {vs : List V} {a : Addr} (I : Inv X pins σ H s) (S : Sim X.K μ H ah) (q : SqL X.K H a vs) (r : Reps X.K μ H ds vs) (h : optAll (toP ah f) ds = some ps) : SR s.heap (.ref a) (.list ps) := by
  obtain ⟨its, rv, ⟨o, m, e1, e2, _, e3⟩, _⟩ := I.list q
  refine .list e1 e2 e3 (by rw [← rv.length, ← r.length]; exact optAll_length h) fun i u p x1 x2 => ?_
  have hi : i < ds.length := by rw [optAll_length h]; exact (List.getElem?_eq_some_iff.mp x2).1
  have x3 : ds[i]? = some ds[i] := List.getElem?_eq_getElem hi
  obtain ⟨v, x4, rv4⟩ := r.get x3
  obtain ⟨u', x5, ru⟩ := rv.get x4
  rw [show its.toArray.toList = its from by simp] at x1
  rw [x1] at x5; cases x5
  exact Inv.sr I S f _ v u p (optAll_get h x3 x2) rv4 ru
def lRepr (ds : List D) (ah : AH) : Res D := match optAll (toP ah 62) ds with
  | some ps => if PyData.showable (.list ps) = true ∧ (PyData.shown (.list ps)).length ≤ line ∧ PyData.depth (.list ps) ≤ 63 then .ok (.str (PyData.shown (.list ps))) ah else .stuck
  | none => .stuck
theorem cs_repr (hr : Rm k X.A) : CallS X (RM X.K) (RD X.K) (.builtin "repr") lRepr := fun W => by
  intro pins s σ H xs us Q I rv h
  obtain ⟨μ, ah, ds, x, H₀, rfl, S, ⟨a, vs, rfl, q, r⟩, hp⟩ := h
  unfold lRepr at hp
  split at hp
  · rename_i ps e
    split at hp
    · rename_i hc
      obtain ⟨u, rfl, ru⟩ := vals1 rv
      cases ru
      have z := list_sr I S q r e
      refine SR.repr z hc.1 (line_le hc.2.1) hr.gd (by have := hr.u65; have := hc.2.2; omega) fun h' t tk kk => ?_
      exact ⟨.str _, H, I.kept kk, ⟨t, rfl⟩, Post.ok1 (R := RD X.K) hp S r_str⟩
    · exact hp.elim
  · exact hp.elim
def lNil (neg : Bool) (ds : List D) (ah : AH) : Res Bool := .ok (if ds.isEmpty = true then !neg else neg) ah
theorem op_nil (hu : X.A.units + 64 < cLine) (neg : Bool) : OpR X (compareOp (if neg then .NotEq else .Eq)) (fun x y H Q => ∃ a b vs, x = .ref a ∧ y = .ref b ∧ SqL X.K H a vs ∧ H b = some (.lst []) ∧
    Q (.bl (if vs.isEmpty = true then !neg else neg)) H) := by
  intro pins s σ H x y v u Q I rx ry h
  obtain ⟨a, b, vs, rfl, rfl, q, hb, hq⟩ := h
  cases rx
  cases ry
  obtain ⟨its, rv, ⟨o, m, e1, e2, _, e3⟩, _⟩ := I.list q
  obtain ⟨its2, rv2, ⟨o2, m2, f1, f2, _, f3⟩, _⟩ := I.list (SqL.of hb)
  have l1 : vs.length = its.length := rv.length
  have l2 : 0 = its2.length := rv2.length
  have hl : s.heap.IsList _ its.toArray := ⟨o, e1, e2, m, e3⟩
  have hl2 : s.heap.IsList _ its2.toArray := ⟨o2, f1, f2, m2, f3⟩
  have hu' : X.A.units < cLine := by omega
  by_cases c : vs = []
  · subst c
    have l1 : 0 = its.length := l1
    have z : its.toArray.size = its2.toArray.size := by rw [List.size_toArray, List.size_toArray]; omega
    have z0 : its.toArray.size = 0 := by rw [List.size_toArray]; omega
    cases neg with
    | false => exact SeqAt.eq_listAt (e := fun _ => true) hl hl2 z hu' (fun j h1 => absurd h1 (by omega)) (by rw [z0]; exact ⟨.bl true, H, I, rfl, hq⟩)
    | true => exact SeqAt.RcNeAt.lists (e := fun _ => true) hl hl2 z hu' (fun j h1 => absurd h1 (by omega)) _ _ _ _ (by rw [z0]; exact ⟨.bl false, H, I, rfl, hq⟩)
  · have z : (its.toArray.size != its2.toArray.size) = true := by
      have := List.length_pos_iff.mpr c
      rw [List.size_toArray, List.size_toArray, bne_iff_ne]
      omega
    have em : vs.isEmpty = false := by cases vs with
      | nil => exact absurd rfl c
      | cons _ _ => rfl
    rw [em] at hq
    cases neg with
    | false => exact SeqAt.eq_list_lengthsAt hl hl2 z hu' ⟨.bl false, H, I, rfl, hq⟩
    | true => exact SeqAt.RcNeAt.lists_lengths hl hl2 z hu' _ _ _ _ ⟨.bl true, H, I, rfl, hq⟩
def bNil (neg : Bool) (m : EM (List D)) : EM Bool := e1 m (lNil neg)
theorem nil_step {neg : Bool} {σ : L2.St} {H : Hp} {Q : V → Hp → Prop} {γ : Type} {R : Rel Bool γ} {Q' : γ → Hp → Prop} {c : γ → V} (hR : ∀ H₀ μ H b g, R.r H₀ μ H b g → True) (hu : X.A.units + 64 < cLine) (h : tG X.K RBV W (bNil neg ml) σ H Q) :
    tOp (fun x y H Q => ∃ a b vs, x = .ref a ∧ y = .ref b ∧ SqL X.K H a vs ∧ H b = some (.lst []) ∧
      Q (.bl (if vs.isEmpty = true then !neg else neg)) H) (tG X.K (RM X.K) W ml) (tLst tNil) σ H Q := by
  obtain ⟨μ, env, ah, he, hs, hp⟩ := h
  refine ⟨μ, env, ah, he, hs, hp.bind fun ds ah1 μ1 x H1 e1 s1 r1 p1 => ?_⟩
  obtain ⟨a, vs, rfl, q, r⟩ := r1
  refine ⟨by decide, fun b nb => ?_⟩
  have z : lNil neg ds ah1 = .ok (if ds.isEmpty = true then !neg else neg) ah1 := rfl
  rw [z] at p1
  have em : ds.isEmpty = vs.isEmpty := by
    have := r.length
    cases ds <;> cases vs <;> simp at this ⊢
  have ex : Ext X.K μ1 H1 μ1 (upd H1 b (.lst [])) := Ext.other nb
  have q2 : SqL X.K (upd H1 b (.lst [])) a vs := by
    rcases q with (q | ⟨o, q⟩) | q
    · exact .inl (.inl (by rw [upd_ne (ne_of_none q nb)]; exact q))
    · exact .inl (.inr ⟨o, by rw [upd_ne (ne_of_none q nb)]; exact q⟩)
    · exact .inr q
  rw [em] at p1
  exact ⟨a, b, vs, rfl, rfl, q2, upd_same, p1 μ1 _ _ ex (s1.other nb) rfl⟩
theorem pb_notNil {j1 : Pos} (hr : Rm k X.A) (ha : PM X W e ml) : PB X W (.Compare e [.NotEq] [.List [] j1] pos) (bNil true ml) := by
  refine PT.weak (pt_cmpR (op_nil hr.u64 true) ha (pe_lst pa_nil) (nomark _)) fun σ H Q ⟨μ, env, ah, he, hs, hp⟩ => ?_
  exact nil_step (R := RB) (c := V.bl) (Q' := Q) (fun _ _ _ _ _ _ => trivial) hr.u64 ⟨μ, env, ah, he, hs, Post.bb hp⟩
theorem pd_nil {j1 : Pos} (hr : Rm k X.A) (ha : PM X W e ml) : PD X W (.Compare e [.Eq] [.List [] j1] pos) (eB (bNil false ml)) := by
  refine PE.weak (pe_cmpR (op_nil hr.u64 false) ha (pe_lst pa_nil) (nomark _)) fun σ H Q ⟨μ, env, ah, he, hs, hp⟩ => ?_
  exact nil_step (R := RB) (c := V.bl) (Q' := fun _ _ => True) (fun _ _ _ _ _ _ => trivial) hr.u64 ⟨μ, env, ah, he, hs, Post.bv hp⟩
end
end HA
namespace HA
open PySem PySem.Spec PyProof.Rows L2
section
variable {X : Cx} {W : WX} {k : Nat} {e : Expr} {es : List Expr} {m : EM D} {ml : EM (List D)} {pos : Pos}
def MtD (X : Cx) (id : String) (f : D → List D → AH → Res D) : Prop := ∀ W, MtR X id (fun x vs H Q => ∃ μ ah d ds, Sim X.K μ H ah ∧ Rep X.K μ H d x ∧ Reps X.K μ H ds vs ∧ Post X.K (RD X.K) W μ H Q (f d ds ah))
theorem MtR.imp {id : String} {r r' : V → List V → Hp → VK → Prop} (h : MtR X id r) (k : ∀ x vs H Q, r' x vs H Q → r x vs H Q) : MtR X id r' := fun pins s σ H x xs v us Q I rx rv q => h pins s σ H x xs v us Q I rx rv (k x xs H Q q)
theorem put_lst {K : PySem.W.Frag} {Wx : Value → Option Addr → Hp → Prop} {μ : List Addr} {H : Hp} {Q : VK} {ah : AH} {n : Nat} {a : Addr} {xs ys : List D} {ws : List V} {d : D} {v : V} (S : Sim K μ H ah) (ea : μ[n]? = some a) (q : ah[n]? = some (.lst xs)) (r : Reps K μ H ys ws) (rd : Rep K μ H d v)
    (hp : Post K (RD K) Wx μ H Q (.ok d (ah.set n (.lst ys)))) : Q v (upd H a (.lst ws)) := by
  have hn : n ≠ 0 := fun z => by
    have := (S.ro0 n _ q).mpr z
    cases this
  have mu := (S.ok n a _ ea q).there rfl
  refine hp μ v _ (Ext.put ea hn mu) (S.put ea q rfl rfl fun ht => ⟨ws, upd_same, Reps.mono (List.prefix_refl _) ht _ _ r⟩) (Rep.ext rd (Ext.put ea hn mu))
theorem r_non' {K : PySem.W.Frag} {μ : List Addr} {H : Hp} : Rep K μ H .non .non := by simp only [Rep]
def mAppend (d : D) (ds : List D) (ah : AH) : Res D := match d, ds with
  | .ref n, [y] => match ah[n]? with
    | some (.lst xs) => if xs.length < line then .ok .non (ah.set n (.lst (xs ++ [y]))) else .stuck
    | _ => .stuck
  | _, _ => .stuck
def mPop (d : D) (ds : List D) (ah : AH) : Res D := match d, ds with
  | .ref n, [] => match ah[n]? with
    | some (.lst xs) => match xs[xs.length - 1]? with
      | some y => .ok y (ah.set n (.lst xs.dropLast))
      | none => .stuck
    | _ => .stuck
  | .ref n, [.int i] => match ah[n]? with
    | some (.lst xs) => if -(2 ^ 63) ≤ i ∧ i < 2 ^ 63 then match seqIndex? i xs.length with
      | some j => match xs[j]? with
        | some y => .ok y (ah.set n (.lst (xs.eraseIdx j)))
        | none => .stuck
      | none => .stuck else .stuck
    | _ => .stuck
  | _, _ => .stuck
theorem MtR.or {id : String} {r r' : V → List V → Hp → VK → Prop} (h : MtR X id r) (h' : MtR X id r') : MtR X id (fun x vs H Q => r x vs H Q ∨ r' x vs H Q) := fun pins s σ H x xs v us Q I rx rv q => q.elim (h pins s σ H x xs v us Q I rx rv) (h' pins s σ H x xs v us Q I rx rv)
theorem md_pop : MtD X "list.pop" mPop := fun W => by
  refine MtR.imp (MtR.or mt_pop mt_popAt) fun x vs H Q ⟨μ, ah, d, ds, S, r1, r2, hp⟩ => ?_
  unfold mPop at hp
  split at hp
  · rename_i n
    obtain ⟨a, ea, rfl⟩ := d_ref r1
    simp only [Reps] at r2
    subst r2
    split at hp
    · rename_i xs q
      split at hp
      · rename_i y ey
        obtain ⟨vs, h1, r⟩ := S.ok n a _ ea q
        obtain ⟨w, ew, rw'⟩ := r.get ey
        exact .inl ⟨a, vs, w, rfl, rfl, h1, by rw [← r.length]; exact ew, put_lst S ea q r.dropLast rw' hp⟩
      · exact hp.elim
    · exact hp.elim
  · rename_i n i
    obtain ⟨a, ea, rfl⟩ := d_ref r1
    obtain ⟨w, rfl, ry⟩ := reps1 r2
    rw [d_int ry]
    split at hp
    · rename_i xs q
      split at hp
      · rename_i hl
        split at hp
        · rename_i j ej
          split at hp
          · rename_i y ey
            obtain ⟨vs, h1, r⟩ := S.ok n a _ ea q
            obtain ⟨u, eu, ru⟩ := r.get ey
            exact .inr ⟨a, vs, i, j, u, rfl, rfl, h1, hl.1, hl.2, by rw [← r.length]; exact ej, eu, put_lst S ea q (r.eraseIdx j) ru hp⟩
          · exact hp.elim
        · exact hp.elim
      · exact hp.elim
    · exact hp.elim
  · exact hp.elim
def mInsert (d : D) (ds : List D) (ah : AH) : Res D := match d, ds with
  | .ref n, [.int i, y] => match ah[n]? with
    | some (.lst xs) => if xs.length < line ∧ 0 ≤ i ∧ i < 2 ^ 63 then .ok .non (ah.set n (.lst (xs.take i.toNat ++ [y] ++ xs.drop i.toNat))) else .stuck
    | _ => .stuck
  | _, _ => .stuck
theorem md_insert : MtD X "list.insert" mInsert := fun W => by
  refine MtR.imp mt_insert fun x vs H Q ⟨μ, ah, d, ds, S, r1, r2, hp⟩ => ?_
  unfold mInsert at hp
  split at hp
  · rename_i n i y
    obtain ⟨a, ea, rfl⟩ := d_ref r1
    obtain ⟨v, w, rfl, ri, ry⟩ := reps2 r2
    rw [d_int ri]
    split at hp
    · rename_i xs q
      split at hp
      · rename_i hl
        obtain ⟨vs, h1, r⟩ := S.ok n a _ ea q
        exact ⟨a, vs, i, w, rfl, rfl, h1, Nat.lt_of_lt_of_le (by rw [← r.length]; exact hl.1) (line_le (Nat.le_refl _)), hl.2.1, hl.2.2, put_lst S ea q (((r.take _).append (Reps.cons ry Reps.nil)).append (r.drop _)) r_non' hp⟩
      · exact hp.elim
    · exact hp.elim
  · exact hp.elim
theorem list_ty {K : PySem.W.Frag} {μ : List Addr} {H : Hp} {ah : AH} {n : Nat} {v : V} {xs : List D} (S : Sim K μ H ah) (r : Rep K μ H (.ref n) v) (e : listAt ah n = some xs) : tyV K "list" v H := by
  obtain ⟨a, ea, rfl⟩ := d_ref r
  obtain ⟨b, vs, eb, q, _⟩ := S.list e
  rw [ea] at eb; cases eb
  exact .inl ⟨rfl, vs, q⟩
def isList (d : D) (ah : AH) : Bool := match d with
  | .ref n => (listAt ah n).isSome
  | _ => false
def eMt (mo : EM D) (ml : EM (List D)) (f : D → List D → AH → Res D) : EM D := fun env ah => (mo env ah).bind fun d ah1 => if isList d ah1 = true then (ml env ah1).bind fun ds ah2 => f d ds ah2 else .stuck
variable {o : Expr} {mo : EM D} {name : Str} {apos cpos : Pos} {id : String} {f : D → List D → AH → Res D}
theorem pe_bmσ {T : String} {r : L2.St → V → List V → Hp → VK → Prop} {to : TE} {t : TA} (pa : PlainAttrs T) (slot : Slot T name id) (hty : typeOf (.builtin id) = pure (.type "method_descriptor")) (hm : ∀ σ, MtR X id (r σ)) (ho : PE X o to) (ha : PA X (e :: es) t)
    (hbase : attributeBase o name X.env (eval o X.env) = eval o X.env := by rfl)
    (hfew : ((backTo cpos (starEach (e :: es) X.env)).all (fun x => !x.1) && (backToKw cpos (keywordEach [] X.env)).all (fun x => x.1.isSome) && decide ((e :: es).length + ([] : List Keyword).length + (if ([] : List Keyword).isEmpty then 0 else 1) < 30)) = true := by rfl)
    (hline : (apos.endLine == cpos.line) = true := by rfl) (hs : starEach (e :: es) X.env = (false, eval e X.env) :: starEach es X.env := by rfl) (hplain : (backTo cpos (starEach es X.env)).any (·.1) = false := by rfl) :
    PE X (.Call (.Attribute o name apos) (e :: es) [] cpos) (fun σ H Q => tBM X.K T (r σ) to t σ H Q) :=
  ⟨fun pins s σ H Q I h => (pe_bm pa slot hty (hm σ) ho ha hbase hfew hline hs hplain).run pins s σ H Q I h⟩
theorem pd_ml (pa : PlainAttrs "list") (slot : Slot "list" name id) (hty : typeOf (.builtin id) = pure (.type "method_descriptor")) (hm : MtD X id f) (ho : PD X W o mo) (ha : PAs X W (e :: es) ml)
    (hbase : attributeBase o name X.env (eval o X.env) = eval o X.env := by rfl)
    (hfew : ((backTo cpos (starEach (e :: es) X.env)).all (fun x => !x.1) && (backToKw cpos (keywordEach [] X.env)).all (fun x => x.1.isSome) && decide ((e :: es).length + ([] : List Keyword).length + (if ([] : List Keyword).isEmpty then 0 else 1) < 30)) = true := by rfl)
    (hline : (apos.endLine == cpos.line) = true := by rfl) (hs : starEach (e :: es) X.env = (false, eval e X.env) :: starEach es X.env := by rfl) (hplain : (backTo cpos (starEach es X.env)).any (·.1) = false := by rfl) :
    PD X W (.Call (.Attribute o name apos) (e :: es) [] cpos) (eMt mo ml f) := by
  refine PE.weak (pe_bmσ pa slot hty (fun σ => hm (fun c d H' => W c d σ H')) ho ha hbase hfew hline hs hplain) fun σ H Q ⟨μ, env, ah, he, hs, hp⟩ => ?_
  refine ⟨μ, env, ah, he, hs, hp.bind fun d ah1 μ1 x H1 e1 s1 r1 p1 => ?_⟩
  split at p1
  · rename_i hi
    have ty : tyV X.K "list" x H1 := by
      cases d with
      | ref n =>
        unfold isList at hi
        dsimp only at hi
        cases q : listAt ah1 n with
        | none => rw [q] at hi; cases hi
        | some xs => exact list_ty s1 r1 q
      | _ => cases hi
    refine ⟨ty, tG_next he e1 s1 (p1.bind fun ds ah2 μ2 vs H2 e2 s2 r2 p2 => ?_)⟩
    exact ⟨μ2, ah2, d, ds, s2, Rep.ext r1 e2, r2, p2⟩
  · exact p1.elim
def oGet (d kd : D) (ah : AH) : Res D := match d, dKey kd with
  | .ref n, some kk => match ah[n]? with
    | some (.dK kvs) => match valD kvs kk with
      | some v => .ok v ah
      | none => .stuck
    | _ => .stuck
  | _, _ => .stuck
theorem val_get {K : PySem.W.Frag} {μ : List Addr} {H : Hp} {κ : Type} [DecidableEq κ] : ∀ {kvs : List (κ × D)} {kws : List (κ × V)} {kk : κ}, kvs.map (·.1) = kws.map (·.1) → Reps K μ H (kvs.map (·.2)) (kws.map (·.2)) → match valD kvs kk with
    | some d => ∃ v, valV kws kk = some v ∧ Rep K μ H d v
    | none => valV kws kk = none
  | [], [], kk, _, _ => rfl
  | [], _ :: _, _, h, _ => by simp at h
  | _ :: _, [], _, h, _ => by simp at h
  | (a, d) :: kvs, (b, v) :: kws, kk, h, r => by
    simp only [List.map_cons, List.cons.injEq] at h
    simp only [List.map_cons, Reps] at r
    obtain ⟨w, ws, e, r1, r2⟩ := r
    cases e
    obtain ⟨rfl, h2⟩ := h
    by_cases hk : a = kk
    · subst hk
      simp [valD, valV, r1]
    · have ih := val_get (kk := kk) h2 r2
      have e1 : valD ((a, d) :: kvs) kk = valD kvs kk := by simp [valD, hk]
      have e2 : valV ((a, v) :: kws) kk = valV kws kk := by simp [valV, hk]
      rw [e1, e2]; exact ih
theorem pd_get {i : Expr} {mi : EM D} (hr : Rm k X.A) (ho : PD X W o mo) (hi : PD X W i mi) (hs : NoSl i := by exact fun _ _ => rfl) : PD X W (.Subscript o i pos) (e2 mo mi oGet) := by
  refine PE.weak (pe_dget hr.u1 ho hi hs) fun σ H Q ⟨μ, env, ah, he, hs, hp⟩ => ?_
  refine ⟨μ, env, ah, he, hs, hp.bind fun d ah1 μ1 x H1 e1 s1 r1 p1 => ?_⟩
  refine tG_next he e1 s1 (p1.bind fun kd ah2 μ2 y H2 e2 s2 r2 p2 => ?_)
  unfold oGet at p2
  split at p2
  · rename_i n kk ek
    obtain ⟨a, ea, rfl⟩ := d_ref (Rep.ext (show Rep X.K μ1 H1 (.ref n) x from r1) e2)
    split at p2
    · rename_i kvs q
      split at p2
      · rename_i v ev
        obtain ⟨kws, h1, h2, r⟩ := s2.ok n a _ ea q
        have z := val_get (kk := kk) h2 r
        rw [ev] at z
        obtain ⟨u, eu, ru⟩ := z
        refine ⟨a, u, rfl, ?_, Post.ok1 (R := RD X.K) p2 s2 ru⟩
        rw [dKey_v ek r2, ← eu]
        exact DGet.k h1
      · exact p2.elim
    · exact p2.elim
  · exact p2.elim
def putD {κ : Type} [DecidableEq κ] (kvs : List (κ × D)) (kk : κ) (v : D) : List (κ × D) := if (kvs.any fun kv => decide (kv.1 = kk)) = true then kvs.map (fun kv => if kv.1 = kk then (kv.1, v) else kv) else kvs ++ [(kk, v)]
theorem put_rel {K : PySem.W.Frag} {μ : List Addr} {H : Hp} {κ : Type} [DecidableEq κ] {kvs : List (κ × D)} {kws : List (κ × V)} {kk : κ} {d : D} {v : V} (h : kvs.map (·.1) = kws.map (·.1)) (r : Reps K μ H (kvs.map (·.2)) (kws.map (·.2))) (rd : Rep K μ H d v) :
    (putD kvs kk d).map (·.1) = (putK kws kk v).map (·.1) ∧ Reps K μ H ((putD kvs kk d).map (·.2)) ((putK kws kk v).map (·.2)) := by
  have ha : (kvs.any fun kv => decide (kv.1 = kk)) = kws.any fun kv => decide (kv.1 = kk) := by
    have e1 : (kvs.any fun kv => decide (kv.1 = kk)) = (kvs.map (·.1)).any fun x => decide (x = kk) := by rw [List.any_map]; rfl
    have e2 : (kws.any fun kv => decide (kv.1 = kk)) = (kws.map (·.1)).any fun x => decide (x = kk) := by rw [List.any_map]; rfl
    rw [e1, e2, h]
  unfold putD putK
  rw [ha]
  split
  · rename_i hh
    clear ha hh
    induction kvs generalizing kws with
    | nil =>
      cases kws with
      | nil => exact ⟨rfl, Reps.nil⟩
      | cons _ _ => simp at h
    | cons p kvs ih =>
      cases kws with
      | nil => simp at h
      | cons q kws =>
        obtain ⟨a, x⟩ := p
        obtain ⟨b, y⟩ := q
        simp only [List.map_cons, List.cons.injEq] at h
        simp only [List.map_cons, Reps] at r
        obtain ⟨w, ws, e, r1, r2⟩ := r
        cases e
        obtain ⟨rfl, h2⟩ := h
        obtain ⟨i1, i2⟩ := ih h2 r2
        by_cases hk : a = kk
        · simp only [List.map_cons, if_pos hk]
          exact ⟨by rw [i1], Reps.cons rd i2⟩
        · simp only [List.map_cons, if_neg hk]
          exact ⟨by rw [i1], Reps.cons r1 i2⟩
  · simp only [List.map_append, List.map_cons, List.map_nil]
    exact ⟨by rw [h], r.append (Reps.cons rd Reps.nil)⟩
def sPut (mo mi mv : EM D) : SM := fun env ah => (mv env ah).thenS env fun v ah1 => (mo env ah1).thenS env fun d ah2 => (mi env ah2).thenS env fun kd ah3 => match d, dKey kd with
  | .ref n, some kk => match ah3[n]? with
    | some (.dK kvs) => if kvs.length < line then .nx env (ah3.set n (.dK (putD kvs kk v))) else .stuck
    | _ => .stuck
  | _, _ => .stuck
theorem pz_put {i v : Expr} {mi mv : EM D} {pos' : Pos} (hr : Rm k X.A) (ho : PD X W o mo) (hi : PD X W i mi) (hv : PD X W v mv) (hs : swapsWith v (some (.Subscript o i pos')) pos.line X.env = pure false := by rfl) : PZ X W (.Assign [.Subscript o i pos'] v pos) (sPut mo mi mv) := by
  refine PS.weak (ps_dput hr.u1 ho hi hv hs) fun D σ H ⟨μ, env, ah, he, hs, hp⟩ => ?_
  refine ⟨μ, env, ah, he, hs, PostS.bind hp he fun v ah1 μ1 w H1 e1 s1 r1 p1 => ?_⟩
  refine ⟨μ1, env, ah1, he.ext e1, s1, PostS.bind p1 (he.ext e1) fun d ah2 μ2 x H2 e2 s2 r2 p2 => ?_⟩
  refine ⟨μ2, env, ah2, he.ext (e1.trans e2), s2, PostS.bind p2 (he.ext (e1.trans e2)) fun kd ah3 μ3 y H3 e3 s3 r3 p3 => ?_⟩
  split at p3
  · rename_i n kk ek
    obtain ⟨a, ea, rfl⟩ := d_ref (Rep.ext (show Rep X.K μ2 H2 (.ref n) x from r2) e3)
    split at p3
    · rename_i kvs q
      split at p3
      · rename_i hl
        obtain ⟨kws, h1, h2, r⟩ := s3.ok n a _ ea q
        have hlen : kvs.length = kws.length := by simpa using congrArg List.length h2
        have rw1 : Rep X.K μ3 H3 v w := Rep.ext (Rep.ext r1 e2) e3
        obtain ⟨z1, z2⟩ := put_rel (kk := kk) h2 r rw1
        refine ⟨a, upd H3 a (.dK (putK kws kk w)), rfl, ?_, ?_⟩
        · rw [dKey_v ek r3]
          exact DPut.k h1 (Nat.lt_of_lt_of_le (by rw [← hlen]; exact hl) (line_le (Nat.le_refl _)))
        · have hn : n ≠ 0 := fun z => by
            have := (s3.ro0 n _ q).mpr z
            cases this
          have mu := (s3.ok n a _ ea q).there rfl
          exact p3 μ3 σ _ (Ext.put ea hn mu) (s3.put ea q rfl rfl fun ht => ⟨_, upd_same, z1, Reps.mono (List.prefix_refl _) ht _ _ z2⟩) ((he.ext ((e1.trans e2).trans e3)).ext (Ext.put ea hn mu))
      · exact p3.elim
    · exact p3.elim
  · exact p3.elim
def eDnew : EM D := fun _ ah => .ok (.ref ah.length) (ah ++ [.dK []])
def dispD (kvs : List (Key × D)) : List (Key × D) := kvs.foldl (fun acc kv => putD acc kv.1 kv.2) []
def dPairs : List (EM D × EM D) → EM (List (D × D))
  | [] => fun _ ah => .ok [] ah
  | (mk, mv) :: r => fun env ah => (mk env ah).bind fun x ah1 => (mv env ah1).bind fun y ah2 => (dPairs r env ah2).bind fun ps ah3 => .ok ((x, y) :: ps) ah3
def eDisp (l : List (EM D × EM D)) : EM D := fun env ah => (dPairs l env ah).bind fun ps ah1 => match optAll (fun p => (dKey p.1).map fun kk => (kk, p.2)) ps with
  | some kvs => if kvs.length ≤ 15 then .ok (.ref ah1.length) (ah1 ++ [.dK (dispD kvs)]) else .stuck
  | none => .stuck
end
end HA
namespace HA
open PySem PySem.Spec PyProof.Rows L2
section
variable {X : Cx} {W : WX} {k : Nat} {e : Expr} {es : List Expr} {m : EM D} {ml : EM (List D)} {pos : Pos}
theorem Sim.foreignM {K : PySem.W.Frag} {μ : List Addr} {H : Hp} {ah : AH} (S : Sim K μ H ah) {p : Addr} {u : HO} (hm : p ∉ μ.tail) (hp : Mut (H p)) : Sim K μ (upd H p u) ah := by
  refine ⟨S.len, S.nd, fun n a o e1 e2 => ?_, S.pos, S.ro0⟩
  refine (S.ok n a o e1 e2).mono (List.prefix_refl _) (TExt.mut hp) (fun q => ?_) fun ob v z => ?_
  · refine upd_ne fun z => ?_
    subst z
    have hn : n ≠ 0 := fun z => by
      have := (S.ro0 n o e2).mpr z
      rw [q] at this; cases this
    obtain ⟨k, rfl⟩ : ∃ k, n = k + 1 := ⟨n - 1, by omega⟩
    exact hm (List.mem_of_getElem? (i := k) (by rw [List.getElem?_tail]; exact e1))
  · rw [upd_ne fun w => by subst w; rw [z] at hp; exact hp]; exact z
theorem Ext.foreignM {K : PySem.W.Frag} {μ μ1 : List Addr} {H H1 : Hp} {p : Addr} {u : HO} (e : Ext K μ H μ1 H1) (h0 : H p = none) (hp : Mut (H1 p)) : Ext K μ H μ1 (upd H1 p u) where
  pre := e.pre
  tup := e.tup.trans (TExt.mut hp)
  new := e.new
  keep := fun a o hm h => by
    rw [upd_ne (fun z => by subst z; rw [h0] at h; cases h)]
    exact e.keep a o hm h
  there := fun a h => e.there a (there_upd a h)
def rps (K : PySem.W.Frag) (μ : List Addr) (H : Hp) (ps : List (D × D)) (qs : List (V × V)) : Prop := Reps K μ H (ps.map (·.1)) (qs.map (·.1)) ∧ Reps K μ H (ps.map (·.2)) (qs.map (·.2))
def RPs (K : PySem.W.Frag) : Rel (List (D × D)) (List (V × V)) := ⟨fun _ μ H ps qs => rps K μ H ps qs, fun _ h => h⟩
inductive PDs (X : Cx) (W : WX) : List (Option Expr) → List Expr → List (EM D × EM D) → Prop where
  | nil : PDs X W [] [] []
  | cons {a b : Expr} {ks : List (Option Expr)} {vs : List Expr} {ma mb : EM D} {l : List (EM D × EM D)} : PD X W a ma → PD X W b mb → PDs X W ks vs l → PDs X W (some a :: ks) (b :: vs) ((ma, mb) :: l)
theorem PDs.pps {ks : List (Option Expr)} {vs : List Expr} {l : List (EM D × EM D)} (h : PDs X W ks vs l) : PPs X pos ks vs (l.map fun p => (tG X.K (RD X.K) W p.1, tG X.K (RD X.K) W p.2)) := by
  induction h with
  | nil => exact pps_nil
  | cons h1 h2 _ ih => exact pps_cons h1 h2 ih
theorem pairs_step {P : List (V × V) → Hp → Prop} {σ : L2.St} : ∀ {l : List (EM D × EM D)} {μ : List Addr} {H : Hp} {env : Env} {ah : AH}, EnvRel X.K μ H env σ → Sim X.K μ H ah → Post X.K (RPs X.K) (fun c d H' => W c d σ H') μ H P (dPairs l env ah) →
    tPairs (l.map fun p => (tG X.K (RD X.K) W p.1, tG X.K (RD X.K) W p.2)) σ H P
  | [], μ, H, env, ah, he, hs, hp => Post.ok1 (R := RPs X.K) hp hs ⟨Reps.nil, Reps.nil⟩
  | (mk, mv) :: l, μ, H, env, ah, he, hs, hp => by
    refine ⟨μ, env, ah, he, hs, hp.bind fun x ah1 μ1 x' H1 e1 s1 r1 p1 => ?_⟩
    refine tG_next he e1 s1 (p1.bind fun y ah2 μ2 y' H2 e2 s2 r2 p2 => ?_)
    refine pairs_step (l := l) (he.ext (e1.trans e2)) s2 ?_
    cases q : dPairs l env ah2 with
    | ok ps ah3 =>
      rw [q] at p2
      intro μ3 qs H3 e3 s3 r3
      exact p2 μ3 ((x', y') :: qs) H3 e3 s3 ⟨Reps.cons (Rep.ext (Rep.ext r1 e2) e3) r3.1, Reps.cons (Rep.ext r2 e3) r3.2⟩
    | exn c fs ah3 => rw [q] at p2; exact p2
    | stuck => rw [q] at p2; exact p2
theorem disp_rel {K : PySem.W.Frag} {μ : List Addr} {H : Hp} : ∀ {kvs : List (Key × D)} {kws : List (Key × V)} {acc : List (Key × D)} {bcc : List (Key × V)}, kvs.map (·.1) = kws.map (·.1) → Reps K μ H (kvs.map (·.2)) (kws.map (·.2)) → acc.map (·.1) = bcc.map (·.1) → Reps K μ H (acc.map (·.2)) (bcc.map (·.2)) →
    (kvs.foldl (fun acc kv => putD acc kv.1 kv.2) acc).map (·.1) = (mergeK bcc kws).map (·.1) ∧ Reps K μ H ((kvs.foldl (fun acc kv => putD acc kv.1 kv.2) acc).map (·.2)) ((mergeK bcc kws).map (·.2))
  | [], [], acc, bcc, _, _, h, r => ⟨h, r⟩
  | [], _ :: _, _, _, h, _, _, _ => by simp at h
  | _ :: _, [], _, _, h, _, _, _ => by simp at h
  | (a, x) :: kvs, (b, y) :: kws, acc, bcc, h, r, h', r' => by
    simp only [List.map_cons, List.cons.injEq] at h
    simp only [List.map_cons, Reps] at r
    obtain ⟨w, ws, e, r1, r2⟩ := r
    cases e
    obtain ⟨rfl, h2⟩ := h
    obtain ⟨z1, z2⟩ := put_rel (kk := a) h' r' r1
    exact disp_rel (kvs := kvs) (kws := kws) h2 r2 z1 z2
theorem keys_rel {K : PySem.W.Frag} {μ : List Addr} {H : Hp} : ∀ {ps : List (D × D)} {qs : List (V × V)} {kvs : List (Key × D)}, optAll (fun p : D × D => (dKey p.1).map fun kk => (kk, p.2)) ps = some kvs → Reps K μ H (ps.map (·.1)) (qs.map (·.1)) → Reps K μ H (ps.map (·.2)) (qs.map (·.2)) →
    ∃ kws : List (Key × V), qs = kws.map (fun kv => (kV kv.1, kv.2)) ∧ kvs.map (·.1) = kws.map (·.1) ∧ Reps K μ H (kvs.map (·.2)) (kws.map (·.2))
  | [], qs, kvs, h, r1, r2 => by
    cases h
    simp only [List.map_nil, Reps, List.map_eq_nil_iff] at r1
    subst r1
    exact ⟨[], rfl, rfl, Reps.nil⟩
  | (a, b) :: ps, qs, kvs, h, r1, r2 => by
    obtain ⟨kv, cs, rfl, h1, h2⟩ := optAll_cons h
    obtain ⟨kk, hk, rfl⟩ := Option.map_eq_some_iff.mp h1
    cases qs with
    | nil => simp only [List.map_cons, List.map_nil, Reps] at r1; obtain ⟨_, _, e, _⟩ := r1; cases e
    | cons q qs =>
      obtain ⟨u, v⟩ := q
      simp only [List.map_cons, Reps] at r1 r2
      obtain ⟨_, _, e1, ra, rb⟩ := r1
      obtain ⟨_, _, e2, rc, rd⟩ := r2
      cases e1
      cases e2
      obtain ⟨kws, rfl, e3, r3⟩ := keys_rel h2 rb rd
      refine ⟨(kk, v) :: kws, ?_, ?_, ?_⟩
      · rw [dKey_v hk ra]; rfl
      · simp only [List.map_cons, e3]
      · exact Reps.cons rc r3
theorem pd_disp {keys : List (Option Expr)} {values : List Expr} {l : List (EM D × EM D)} (h : PDs X W keys values l) (hall : keys.all (·.isSome) = true := by rfl) (hl : keys.length = values.length := by rfl) (h0 : keys ≠ [] := by exact fun z => by cases z) (h15 : keys.length ≤ 15 := by decide) : PD X W (.Dict keys values pos) (eDisp l) := by
  refine PE.weak (pe_disp (PDs.pps h) hall hl h0 h15) fun σ H Q ⟨μ, env, ah, he, hs, hp⟩ p np => ?_
  have ex : Ext X.K μ H μ (upd H p (.dK [])) := Ext.other np
  refine pairs_step (μ := μ) (env := env) (ah := ah) (he.ext ex) (hs.other np) ?_
  unfold eDisp at hp
  cases q : dPairs l env ah with
  | ok ps ah1 =>
    rw [q] at hp
    intro μ1 qs H1 e1 s1 r1
    rw [Res.bind_ok] at hp
    split at hp
    · rename_i kvs ek
      split at hp
      · rename_i hc
        obtain ⟨kws, rfl, k1, k2⟩ := keys_rel ek r1.1 r1.2
        have hm : p ∉ μ1.tail := fun z => by
          rcases e1.new p z with w | w
          · exact hs.free np w
          · rw [upd_same] at w; cases w
        have hd : H1 p = some (.dK []) := e1.keep p _ (hs.free np) upd_same
        have hM : Mut (H1 p) := by rw [hd]; trivial
        have hlen : kvs.length = kws.length := by simpa using congrArg List.length k1
        refine ⟨hd, kws, rfl, by omega, ?_⟩
        have ht : TExt X.K H1 (upd H1 p (.dK (mergeK [] kws))) := TExt.mut hM
        have eH : Ext X.K μ H μ1 (upd H1 p (.dK (mergeK [] kws))) := Ext.foreignM (ex.trans e1) np hM
        obtain ⟨z1, z2⟩ := disp_rel (K := X.K) (μ := μ1 ++ [p]) (H := upd H1 p (.dK (mergeK [] kws))) (acc := []) (bcc := []) k1 (Reps.mono (List.prefix_append _ _) ht _ _ k2) rfl Reps.nil
        refine hp (μ1 ++ [p]) (.ref p) _ (eH.adopt np s1.mpos) (Sim.adopt (s1.foreignM hm hM) rfl hm ⟨_, upd_same, z1, z2⟩) ?_
        show Rep _ _ _ _ _
        simp only [Rep]
        exact ⟨p, by rw [← s1.len]; simp, rfl⟩
      · exact hp.elim
    · exact hp.elim
  | exn c fs ah1 => rw [q] at hp; exact fun μ' H' od e' s' x => hp μ' H' od (ex.trans e') s' x
  | stuck => rw [q] at hp; exact hp
structure PKs (X : Cx) (W : WX) (kws : List Keyword) (m : EM (List D)) : Prop where
  pk : PK X kws (tG X.K (RA X.K) W m)
theorem PK.weak {kws : List Keyword} {t t' : TA} (h : PK X kws t) (k : ∀ σ H Q, t' σ H Q → t σ H Q) : PK X kws t' := ⟨fun p pins s σ H Q I q => h.run p pins s σ H Q I (k σ H Q q)⟩
theorem pks_nil : PKs X W [] aNil := ⟨PK.weak pk_nil fun σ H Q ⟨μ, env, ah, he, hs, hp⟩ => Post.ok1 (R := RA X.K) hp hs (show Reps X.K μ H [] [] from Reps.nil)⟩
theorem pks_cons {nm : Option Str} {kpos : Pos} {kws : List Keyword} {mes : EM (List D)} (ha : PD X W e m) (hr : PKs X W kws mes) : PKs X W (⟨nm, e, kpos⟩ :: kws) (aCons m mes) := by
  refine ⟨PK.weak (pk_cons ha hr.pk) fun σ H Q ⟨μ, env, ah, he, hs, hp⟩ => ?_⟩
  refine ⟨μ, env, ah, he, hs, hp.bind fun d ah1 μ1 x H1 e1 s1 r1 p1 => ?_⟩
  exact tG_next he e1 s1 (Post.cons r1 p1)
structure KB (K : PySem.W.Frag) (fd : FuncData) (ps ks : List Str) (n : Nat) (g : {α : Type} → List α → List α → List α) : Prop where
  to : ∀ (s : Shared) (us ws : List Value), K.In s.heap → us.length = n → ws.length = ks.length → BindsTo s fd ⟨us, ks.zip ws⟩ (ps.zip (g us ws))
  len : ∀ {α : Type} (us ws : List α), us.length = n → ws.length = ks.length → (g us ws).length = ps.length
  rel : ∀ {vs : List V} {us : List Value} {zs : List V} {ws : List Value}, vs.length = n → zs.length = ks.length → Vals vs us → Vals zs ws → Vals (g vs zs) (g us ws)
  rep : ∀ {K' : PySem.W.Frag} {μ : List Addr} {H : Hp} {ds : List D} {vs : List V} {fs : List D} {zs : List V}, ds.length = n → fs.length = ks.length → Reps K' μ H ds vs → Reps K' μ H fs zs → Reps K' μ H (g ds fs) (g vs zs)
variable {f : Addr} {fd : FuncData} {ps ks : List Str} {mf : List D → AH → Res D} {x : Str} {p : Pos} {mk : EM (List D)} {kws : List Keyword} {g : {α : Type} → List α → List α → List α}
def sPar2 (i j : Nat) (ml : EM (List D)) : SM := fun env ah => (ml env ah).thenS env fun ds ah1 => match ds with
  | [x, y] => .nx ((env.set i (some x)).set j (some y)) ah1
  | _ => .stuck
def sSetL (mo mi mv : EM D) : SM := fun env ah => (mv env ah).thenS env fun v ah1 => (mo env ah1).thenS env fun d ah2 => (mi env ah2).thenS env fun kd ah3 => match d, kd with
  | .ref n, .int i => match ah3[n]? with
    | some (.lst xs) => match ixN xs.length i with
      | some j => .nx env (ah3.set n (.lst (xs.set j v)))
      | none => .stuck
    | _ => .stuck
  | _, _ => .stuck
variable {o : Expr} {mo : EM D}
def lRange (i j : Int) (ah : AH) : Res (List D) := if -(2 ^ 62) ≤ i ∧ i < 2 ^ 62 ∧ -(2 ^ 62) ≤ j ∧ j < 2 ^ 62 ∧ (j - i).toNat ≤ 2 ^ 24 then .ok ((List.range (j - i).toNat).map fun (n : Nat) => D.int (i + n)) ah else .stuck
def lRange1 (d : D) (ah : AH) : Res (List D) := match d with
  | .int j => lRange 0 j ah
  | _ => .stuck
def lRange2 (d f : D) (ah : AH) : Res (List D) := match d, f with
  | .int i, .int j => lRange i j ah
  | _, _ => .stuck
theorem rg_reps {K : PySem.W.Frag} {μ : List Addr} {H : Hp} (i j : Int) : Reps K μ H ((List.range (j - i).toNat).map fun (n : Nat) => D.int (i + n)) (rgV i j) := by
  have e : ((List.range (j - i).toNat).map fun (n : Nat) => D.int (i + n)) = ((List.range (j - i).toNat).map fun (n : Nat) => (i + n : Int)).map D.int := by rw [List.map_map]; rfl
  have e2 : rgV i j = ((List.range (j - i).toNat).map fun (n : Nat) => (i + n : Int)).map V.int := by unfold rgV; rw [List.map_map]; rfl
  rw [e, e2]
  exact Reps.of_ints _
theorem pl_range1 {a : Expr} {p p' pos' : Pos} {ma : EM D} (hc : X.calm = true) (hgl : Gl X "list") (hml : X.mg "list" = none) (hgr : Gl X "range") (hmr : X.mg "range" = none) (ha : PD X W a ma) (na : starEach [a] X.env = (false, eval a X.env) :: starEach [] X.env := by rfl)
    (na' : starEach [.Call (.Name "range" p') [a] [] pos] X.env = (false, eval (.Call (.Name "range" p') [a] [] pos) X.env) :: starEach [] X.env := by rfl) : PL X W (.Call (.Name "list" p) [.Call (.Name "range" p') [a] [] pos] [] pos') (e1 ma lRange1) := by
  refine PE.weak (pe_listRg hc hgl hml (prg_1 hgr hmr ha na) na') fun σ H Q ⟨μ, env, ah, he, hs, hp⟩ => ?_
  refine ⟨μ, env, ah, he, hs, hp.bind fun d ah1 μ1 x H1 e1 s1 r1 p1 => ?_⟩
  cases d with
  | int j =>
    unfold lRange1 lRange at p1
    dsimp only at p1
    split at p1
    · rename_i hl
      refine ⟨j, d_int (show Rep X.K μ1 H1 (.int j) x from r1), ⟨hl.1, hl.2.1, hl.2.2.1, hl.2.2.2.1, hl.2.2.2.2⟩, fun q nq => Post.newL p1 s1 (rg_reps 0 j) nq⟩
    · exact p1.elim
  | _ => exact p1.elim
end
end HA
namespace HA
open PySem PySem.Spec PyProof.Rows L2
section
variable {prog : Program} {w : World} {A : Around} {E : Value → Shared → Prop} {s : Shared}
end
section
variable {X : Cx} {W : WX} {k : Nat} {e : Expr} {m : EM D} {pos : Pos}
def tRevT (K : PySem.W.Frag) (te : TE) : TE := fun σ H Q => te σ H fun x H1 => ∃ a xs, x = .ref a ∧ SqT K H1 a xs ∧ ∀ p, H1 p = none → Q (.ref p) (upd H1 p (.tup xs.reverse))
def oRevT (d : D) (ah : AH) : Res D := match d with
  | .tup ds => .ok (.tup ds.reverse) ah
  | _ => .stuck
def lRevL (ds : List D) (ah : AH) : Res (List D) := .ok ds.reverse ah
theorem pl_revL {ml : EM (List D)} {j : Nat} {p1 p2 p3 : Pos} (he : PM X W e ml) : PL X W (.Subscript e (.Slice none none (some (.UnaryOp .USub (.Constant (.int 1) j p1) p2)) p3) pos) (e1 ml lRevL) := by
  refine PE.weak (pe_revL he) fun σ H Q ⟨μ, env, ah, he, hs, hp⟩ => ?_
  refine ⟨μ, env, ah, he, hs, hp.bind0 fun ds ah1 μ1 x H1 e1 s1 r1 p1 => ?_⟩
  obtain ⟨a, vs, rfl, q, r⟩ := r1
  refine ⟨a, vs, rfl, q, fun p np => ?_⟩
  exact p1 μ1 _ _ (e1.trans (Ext.other np)) (s1.other np) ⟨p, _, rfl, e1.there p np, upd_same, s1.free np, (r.ext (Ext.other np)).reverse⟩
end
end HA
namespace HA
open PySem PySem.Spec PyProof.Rows L2
abbrev ah0 (ns : List Int) : AH := [.ro (ns.map D.int)]
section
variable {P : Program} {w : World} {K : PySem.W.Frag} {mg mb : Str → Option Value} {k : Nat} {fa a : Addr} {fd : FuncData} {x : Str} {m : List D → AH → Res D} {s₁ : Shared} {vs : List Value} {ns : List Int}
theorem sim0 {H : Hp} (h : (∃ o, H a = some (.frz o (.lst (ns.map V.int)))) ∨ ∃ (o : Obj) (its : Array Value) (n : Nat), K.lookup a = some o ∧ o.cls = .type "list" ∧ o.dict = none ∧ o.data = .seq its n ∧ its.size ≤ sizeLine ∧ Vals (ns.map V.int) its.toList) : Sim K [a] H (ah0 ns) := by
  refine ⟨rfl, fun n j b o o' e1 e2 e3 e4 r1 r2 => ?_, fun n b o e1 e2 => ?_, by simp, fun n o e => ?_⟩
  · cases n with
    | zero => simp at e3; subst e3; cases r1
    | succ n => simp at e3
  · cases n with
    | zero =>
      simp at e1 e2
      subst e1; subst e2
      exact ⟨ns.map V.int, h, Reps.of_ints ns⟩
    | succ n => simp at e2
  · cases n with
    | zero => simp at e; subst e; simp [AObj.isRo]
    | succ n => simp at e
theorem law_G (KX : K.In s₁.heap) (gl : s₁.heap.Ns mainGlobals mg) (bn : s₁.heap.Ns builtinsNs mb) (bb : ∀ x : Str, x ≠ "__name__" → mb x = bootBuiltins x) (nl : s₁.heap.NoLimit) (g0 : s₁.gens = #[])
    (ha : s₁.heap.get? a = some { cls := .type "list", data := .seq vs.toArray }) (hi : IntsAre vs ns) (hl : ns.length ≤ sizeLine) (hr : Rm k callerA)
    (F : ∀ base : Heap, K.In base → base.Ns mainGlobals mg → FnG P w K mg base k fa fd [x] m) (bd : ∀ (s : Shared) (u : Value), BindsTo s fd ⟨[u], []⟩ [(x, u)])
    (hm : ∃ ah', m [.ref 0] (ah0 ns) = .ok (.bl true) ah') :
    codeAny (model P w) callerA (.call (.ref fa) ⟨[.ref a], []⟩) (fun r s' => r = .ok (.ret (.bool true)) ∧ OldK s₁.heap s'.heap ∧ s'.os = s₁.os ∧ AllBare s'.gens) s₁ := by
  obtain ⟨ah', hm⟩ := hm
  have rv := vals_ints hi
  have lv := hi.length
  have main : ∀ H : Hp, Sim K [a] H (ah0 ns) → Only H → HOk P w H s₁.heap → (∀ b, H b ≠ none → b = a) → (H a ≠ none → K.lookup a = none) →
      codeAny (model P w) callerA (.call (.ref fa) ⟨[.ref a], []⟩) (fun r s' => r = .ok (.ret (.bool true)) ∧ OldK s₁.heap s'.heap ∧ s'.os = s₁.os ∧ AllBare s'.gens) s₁ := fun H S only ok at1 un1 => by
    have no : ∀ {b : Addr} {o : Obj} {es : Array DictEntry} {ep : Nat}, s₁.heap.get? b = some o → o.data = .dict es ep → H b = none := fun {b o es ep} e d => by
      cases q : H b with
      | none => rfl
      | some u =>
        obtain rfl : b = a := at1 b (by rw [q]; simp)
        rw [ha] at e
        cases e
        cases (show Data.seq vs.toArray _ = Data.dict es ep from d)
    have ns1 : ∀ {b : Addr} {f : Str → Option Value}, s₁.heap.Ns b f → (hidT s₁.heap H).Ns b f := fun {b f} ⟨o, es, ep, e, d, r⟩ => ⟨o, es, ep, hidT_get e (no e d), d, r⟩
    have kin : K.In (hidT s₁.heap H) := fun b o e => hidT_get (KX b o e) (by
      cases q : H b with
      | none => rfl
      | some u =>
        obtain rfl : b = a := at1 b (by rw [q]; simp)
        rw [un1 (by rw [q]; simp)] at e
        cases e)
    obtain ⟨mc, l1, l2⟩ := nl
    have env0 : Env0 P w K mg (hidT s₁.heap H) callerA [] s₁ H := ⟨rfl, ⟨kin, ns1 gl, ⟨mb, ns1 bn, bb⟩, ⟨mc, ns1 l1, l2⟩⟩, fun b o e => of_hidT e, Nat.le_of_eq (hidT_size _ _), trivial, fun b hb => (by cases hb), ok, .of_eq g0⟩
    have rd : Reps K [a] H [.ref 0] [.ref a] := Reps.cons (by simp only [Rep]; exact ⟨a, rfl, rfl⟩) Reps.nil
    refine codeAny_mono ((F _ kin (ns1 gl)).run callerA [] s₁ H ⟨[.ref a], []⟩ [.ref a] [.ref a] (fun v _ => v = .bl true) (fun _ _ _ => False) [a] [.ref 0] (ah0 ns) hr env0 (bd s₁ (.ref a)) (.cons rfl .nil) rfl S rd (by rw [hm]; intro μ' y H' _ _ r; exact d_bl (K := K) (μ := μ') (H := H') r)) fun r s' h => ?_
    cases r with
    | error e => exact (h.elim (fun ⟨_, _, _, _, _, _, _, _, _, _, _, _, z⟩ => z) (fun ⟨_, _, _, _, _, _, _, _, _, _, _, _, z⟩ => z.2) : False).elim
    | ok fl =>
      cases fl with
      | next => exact h.elim
      | brk => exact h.elim
      | cont => exact h.elim
      | ret u =>
        obtain ⟨v, H', os, bare, un, ok', r', q⟩ := h
        obtain rfl : v = .bl true := q
        obtain rfl : u = Value.bool true := r'
        refine ⟨rfl, OldK.of_keep fun b o e => ?_, os, bare⟩
        cases q : H b with
        | none => exact un.keep b o e q (fun z => by cases z) (by simp)
        | some u =>
          rcases only b with z | ⟨ob, xs, z⟩
          · rw [q] at z; cases z
          · obtain ⟨e1, _⟩ := ok b _ z
            obtain ⟨e2, _⟩ := ok' b _ (un.frzs b ob _ z)
            rw [e] at e1
            cases e1
            exact e2
  cases hk : K.lookup a with
  | some o =>
    have e := KX a o hk
    rw [ha] at e
    cases e
    refine main (fun _ => none) (sim0 (.inr ⟨_, vs.toArray, _, hk, rfl, rfl, rfl, by rw [List.size_toArray, lv]; exact hl, by simpa using rv⟩)) (fun _ => .inl rfl) (fun b u z => by cases (show (none : Option HO) = some u from z)) (fun b z => (z rfl).elim) fun z => (z rfl).elim
  | none =>
    let o : Obj := { cls := .type "list", data := .seq vs.toArray }
    let H : Hp := fun b => if b = a then some (.frz o (.lst (ns.map V.int))) else none
    have at_a : H a = some (.frz o (.lst (ns.map V.int))) := if_pos rfl
    have off : ∀ b, b ≠ a → H b = none := fun b h => if_neg h
    refine main H (sim0 (.inl ⟨o, at_a⟩)) (fun b => ?_) (fun b u z => ?_) (fun b z => ?_) fun _ => hk
    · by_cases hb : b = a
      · subst hb; exact .inr ⟨_, _, at_a⟩
      · exact .inl (off b hb)
    · by_cases hb : b = a
      · subst hb
        rw [at_a] at z
        cases z
        exact ⟨ha, by rw [List.length_map]; exact hl, vs, _, rv, ha⟩
      · rw [off b hb] at z; cases z
    · by_cases hb : b = a
      · exact hb
      · exact (z (off b hb)).elim
end
theorem rm_caller {k : Nat} (h : k ≤ 200) : Rm k callerA := ⟨⟨rfl, by show 1 + claimMargin + 3 * k + 5 < recursionLimit; unfold claimMargin recursionLimit; omega, by show 4 + 16 * k + 200 < cLine; unfold cLine; omega⟩, rfl⟩
def CR (K : PySem.W.Frag) (u : Value) (d : D) : Prop := ∃ v, RelV v u ∧ ∀ μ H, Rep K μ H d v
theorem cr_str {K : PySem.W.Frag} {i : Str} {t : Tok} : CR K (.str i t) (.str i) := ⟨.str i, ⟨t, rfl⟩, fun _ _ => by simp only [Rep]⟩
inductive CRs (K : PySem.W.Frag) : List Value → List D → Prop where
  | nil : CRs K [] []
  | cons {u : Value} {d : D} {us : List Value} {ds : List D} : CR K u d → CRs K us ds → CRs K (u :: us) (d :: ds)
theorem CRs.vals {K : PySem.W.Frag} {us : List Value} {ds : List D} (h : CRs K us ds) : ∃ vs, Vals vs us ∧ ∀ μ H, Reps K μ H ds vs := by
  induction h with
  | nil => exact ⟨[], .nil, fun _ _ => Reps.nil⟩
  | cons h _ ih =>
    obtain ⟨v, r, q⟩ := h
    obtain ⟨vs, rs, qs⟩ := ih
    exact ⟨v :: vs, .cons r rs, fun μ H => Reps.cons (q μ H) (qs μ H)⟩
theorem cr_tup {K : PySem.W.Frag} {a : Addr} {o : Obj} {us : Array Value} {n : Nat} {ds : List D} (hk : K.lookup a = some o) (hc : o.cls = .type "tuple") (hd : o.data = .seq us n) (hz : us.size ≤ line) (h : CRs K us.toList ds) : CR K (.ref a) (.tup ds) := by
  obtain ⟨vs, r, q⟩ := h.vals
  exact ⟨.ref a, rfl, fun μ H => by
    simp only [Rep]
    exact ⟨a, vs, rfl, .inr ⟨o, us, n, hk, hc, hd, line_le hz, r⟩, q μ H⟩⟩
theorem pd_const {X : Cx} {W : WX} {x : Str} {d : D} {pos : Pos} (hg : Gl X x) (h : ∃ u, X.mg x = some u ∧ CR X.K u d) (hd : (x == ("__debug__" : Str)) = false := by decide) : PD X W (.Name x pos) (eC d) := by
  obtain ⟨u, hm, v, r, q⟩ := h
  exact pd_glob hg hm r q hd
end HA
namespace HA
open PySem PySem.Spec PyProof.Rows L2
section
variable {X : Cx} {W : WX} {k : Nat} {e : Expr} {es : List Expr} {m : EM D} {ml : EM (List D)} {pos : Pos}
def bChain (ma mb mc : EM D) (f g : D → D → AH → Res Bool) : EM Bool := fun env ah => (ma env ah).bind fun x a1 => (mb env a1).bind fun y a2 => (f x y a2).bind fun c a3 => if c = true then (mc env a3).bind fun z a4 => g y z a4 else .ok false a3
variable {op op' : CmpOp} {a b c : Expr} {ma mb mc : EM D} {f g : D → D → AH → Res Bool}
def oAddA : D → D → AH → Res D
  | .ref n, .ref m, ah => match ah[n]?, ah[m]? with
    | some (.lst xs), some (.lst ys) => if xs.length + ys.length ≤ line then .ok (.ref ah.length) (ah ++ [.lst (xs ++ ys)]) else .stuck
    | _, _ => .stuck
  | x, y, ah => oAdd x y ah
theorem OpR.or {F : Value → Value → Sem Value} {r r' : R2} (h : OpR X F r) (h' : OpR X F r') : OpR X F (fun x y H Q => r x y H Q ∨ r' x y H Q) := fun pins s σ H x y v u Q I rx ry q => q.elim (h pins s σ H x y v u Q I rx ry) (h' pins s σ H x y v u Q I rx ry)
theorem od_addA : OpD X (RD X.K) (binaryOp .Add) oAddA := fun Wx => by
  refine OpR.imp (OpR.or (od_add Wx) op_cat) fun x y H Q ⟨μ, ah, dx, dy, S, rx, ry, hp⟩ => ?_
  have old : oAddA dx dy ah = oAdd dx dy ah → rO (R := RD X.K) X.K Wx oAdd x y H Q ∨ rCat x y H Q := fun e => .inl ⟨μ, ah, dx, dy, S, rx, ry, by rw [← e]; exact hp⟩
  cases dx with
  | ref n =>
    cases dy with
    | ref m =>
      unfold oAddA at hp
      simp only at hp
      split at hp
      · rename_i xs ys q1 q2
        split at hp
        · rename_i hl
          obtain ⟨a, ea, rfl⟩ := d_ref rx
          obtain ⟨b, eb, rfl⟩ := d_ref ry
          obtain ⟨a', e1, vs, ha, ra⟩ := S.at q1
          obtain ⟨b', e2, ws, hb, rb⟩ := S.at q2
          rw [ea] at e1; cases e1
          rw [eb] at e2; cases e2
          refine .inr ⟨a, b, vs, ws, rfl, rfl, ha, hb, line_le (by rw [← ra.length, ← rb.length]; exact hl), fun p np => ?_⟩
          have r := (ra.append rb).mono (List.prefix_append μ [p]) (TExt.new (o := .lst (vs ++ ws)) np)
          refine hp (μ ++ [p]) (.ref p) (upd H p (.lst (vs ++ ws))) (Ext.ours np S.mpos) (S.new np rfl ⟨vs ++ ws, upd_same, r⟩) ?_
          show Rep X.K (μ ++ [p]) (upd H p (.lst (vs ++ ws))) (.ref ah.length) (.ref p)
          simp only [Rep]
          exact ⟨p, by rw [← S.len]; simp, rfl⟩
        · exact hp.elim
      · exact hp.elim
    | _ => exact old rfl
  | _ => exact old rfl
end
structure TF (K : PySem.W.Frag) (mg : Str → Option Value) (x : Str) (st : Stmt) (ps : List Str) where
  a : Addr
  fd : FuncData
  F : Fun K x x st a fd
  g : mg x = some (.ref a)
  k : PySem.W.keepIn K (.ref a) = true
  ga : gA K x = a
  b : Binds K fd ps []
def tf_mk {K : PySem.W.Frag} {h : Heap} {mg : Str → Option Value} (X : K.In h) (G : h.Ns mainGlobals mg) {x : Str} {st : Stmt} {ps : List Str} {f : Addr} {oc : Value} {od an : Option Addr} {osl : Array (Option Value)} {kV doc pm cdv ct : Value}
    (hb : ∀ (kV doc pm : Value) (an : Option Addr) (cdv ct : Value) (us : List Value), us.length = ps.length → bindArgs (PySem.W.fnOf x x (defArgs st) (defBody st) (defScope st) .none kV doc pm an cdv ct) ⟨us, []⟩ = pure (ps.zip us))
    (l : K.lookup f = some ⟨oc, od, .func (PySem.W.fnOf x x (defArgs st) (defBody st) (defScope st) .none kV doc pm an cdv ct), osl⟩) (n : PySem.W.nsIn K mainGlobals x = some (some (.ref f)))
    (c : PySem.W.codeIn K cdv x = true) (k : PySem.W.keepIn K (.ref f) = true) : TF K mg x st ps :=
  ⟨f, _, fun_mk l c k, PySem.W.mg_of X G n, k, gA_of n, (fun_mk l c k).binds hb⟩
def pick (π : List Nat) {α : Type} (us ws : List α) : List α := π.filterMap fun i => (us ++ ws)[i]?
theorem pick_cons {α : Type} {us ws : List α} {i : Nat} {π : List Nat} (h : i < us.length + ws.length) : pick (i :: π) us ws = (us ++ ws)[i]'(by simpa using h) :: pick π us ws := by
  unfold pick
  rw [List.filterMap_cons, List.getElem?_eq_getElem (by simpa using h)]
theorem vals_get : ∀ {vs : List V} {us : List Value} {i : Nat} {v : V} {u : Value}, Vals vs us → vs[i]? = some v → us[i]? = some u → RelV v u
  | _, _, _, _, _, .nil, e, _ => by simp at e
  | _, _, 0, _, _, .cons r _, e1, e2 => by simp at e1 e2; subst e1; subst e2; exact r
  | _, _, i + 1, _, _, .cons _ t, e1, e2 => vals_get t (by simpa using e1) (by simpa using e2)
theorem kb_pick {K : PySem.W.Frag} {x qual : Str} {st : Stmt} {f : Addr} {fd : FuncData} {ps ks : List Str} {n : Nat} (π : List Nat) (F : Fun K x qual st f fd) (hl : π.length = ps.length) (hπ : ∀ i ∈ π, i < n + ks.length)
    (hb : ∀ (kV doc pm : Value) (an : Option Addr) (cdv ct : Value) (us ws : List Value), us.length = n → ws.length = ks.length → bindArgs (PySem.W.fnOf x qual (defArgs st) (defBody st) (defScope st) .none kV doc pm an cdv ct) ⟨us, ks.zip ws⟩ = pure (ps.zip (pick π us ws))) :
    KB K fd ps ks n (fun {_} us ws => pick π us ws) where
  to := fun s us ws _ h1 h2 => by
    obtain ⟨oc, od, kV, doc, pm, an, cdv, ct, osl, rfl, lk, hcd⟩ := F.ex
    exact .of_eq (hb kV doc pm an cdv ct us ws h1 h2)
  len := fun {α} us ws h1 h2 => by
    rw [← hl]
    clear hb hl
    induction π with
    | nil => rfl
    | cons i π ih => rw [pick_cons (by rw [h1, h2]; exact hπ i (by simp)), List.length_cons, List.length_cons, ih fun j hj => hπ j (List.mem_cons_of_mem _ hj)]
  rel := fun {vs us zs ws} h1 h2 r1 r2 => by
    clear hb hl
    induction π with
    | nil => exact .nil
    | cons i π ih =>
      have hi := hπ i (by simp)
      have l1 := r1.length
      have l2 := r2.length
      rw [pick_cons (by rw [h1, h2]; exact hi), pick_cons (by rw [← l1, ← l2, h1, h2]; exact hi)]
      exact .cons (vals_get (Vals.append r1 r2) (List.getElem?_eq_getElem _) (List.getElem?_eq_getElem _)) (ih fun j hj => hπ j (List.mem_cons_of_mem _ hj))
  rep := fun {K' μ H ds vs fs zs} h1 h2 r1 r2 => by
    clear hb hl
    induction π with
    | nil => exact Reps.nil
    | cons i π ih =>
      have hi := hπ i (by simp)
      have l1 := r1.length
      have l2 := r2.length
      rw [pick_cons (by rw [h1, h2]; exact hi), pick_cons (by rw [← l1, ← l2, h1, h2]; exact hi)]
      refine Reps.cons ?_ (ih fun j hj => hπ j (List.mem_cons_of_mem _ hj))
      obtain ⟨v, e, r⟩ := (r1.append r2).get (i := i) (List.getElem?_eq_getElem (by simp [h1, h2]; exact hi))
      rw [List.getElem?_eq_getElem (by simp [← l1, ← l2, h1, h2]; exact hi)] at e
      cases e
      exact r
section
variable {X : Cx} {W : WX} {elt tg iter : Expr} {ifs : List Expr} {scope : Scope} {own : List (Str × Nat)} {pos : Pos} {mi : EM Itm} {tm : TM} {ts vs : List Nat} {mt : EM Bool} {me : EM D}
theorem pl_lcv (hc : X.calm = true) (hN : X.N.Nodup) (hi : PF X W tg iter mi) (ok : BlkOk X.N X.env.scope scope own) (hv : own.map (·.2) = vs) (hts : ∀ j ∈ ts, j ∈ own.map (·.2))
    (hg : ∀ (s : Shared) (H : Hp) (C : Addr) (cl : List (Str × Addr)) (fp : List Addr), PT1 (X.blk s H scope (compEnvC scope cl C X.env) fp) tg ts tm) (ht : ∀ (s : Shared) (H : Hp) (C : Addr) (cl : List (Str × Addr)) (fp : List Addr), PTsD (X.blk s H scope (compEnvC scope cl C X.env) fp) W0 ifs mt)
    (he : ∀ (s : Shared) (H : Hp) (C : Addr) (cl : List (Str × Addr)) (fp : List Addr), PD (X.blk s H scope (compEnvC scope cl C X.env) fp) W0 elt me) (hs : ∀ x, foldedSetIterable iter X.env x = pure x := by intro _; rfl) :
    PL X W (.ListComp elt [⟨tg, iter, ifs, 0⟩] scope pos) (lLc mi tm mt me vs) := hv ▸ pl_lc hc hN hi ok hts hg ht he hs
theorem pz_setLcv {i : Nat} {y : Str} {py spos : Pos} (hc : X.calm = true) (hN : X.N.Nodup) (hy : X.N[i]? = some y) (hyl : X.env.scope.names.lookup y = some .local)
    (hsw : swapsWith (.ListComp elt [⟨tg, iter, ifs, 0⟩] scope pos) (some (.Name y py)) spos.line X.env = pure true) (hi : PF X W tg iter mi) (ok : BlkOk X.N X.env.scope scope own) (hv : own.map (·.2) = vs) (hts : ∀ j ∈ ts, j ∈ own.map (·.2))
    (hg : ∀ (s : Shared) (H : Hp) (C : Addr) (cl : List (Str × Addr)) (fp : List Addr), PT1 (X.blk s H scope (compEnvC scope cl C X.env) fp) tg ts tm) (ht : ∀ (s : Shared) (H : Hp) (C : Addr) (cl : List (Str × Addr)) (fp : List Addr), PTsD (X.blk s H scope (compEnvC scope cl C X.env) fp) W0 ifs mt)
    (he : ∀ (s : Shared) (H : Hp) (C : Addr) (cl : List (Str × Addr)) (fp : List Addr), PD (X.blk s H scope (compEnvC scope cl C X.env) fp) W0 elt me) (hs : ∀ x, foldedSetIterable iter X.env x = pure x := by intro _; rfl) :
    PZ X W (.Assign [.Name y py] (.ListComp elt [⟨tg, iter, ifs, 0⟩] scope pos) spos) (sAsg (eNew (lLc mi tm mt me vs)) (gSet i)) := hv ▸ pz_setLc hc hN hy hyl hsw hi ok hts hg ht he hs
end
end HA
namespace HA
open PySem PySem.Spec PyProof.Rows L2
section
variable {α β γ δ : Type} (env : Env) (ah : AH)
@[simp] theorem eVar_zero (d : D) (r : Env) : eVar 0 (some d :: r) ah = .ok d ah := rfl
@[simp] theorem eVar_succ (i : Nat) (x : Option D) (r : Env) : eVar (i + 1) (x :: r) ah = eVar i r ah := by
  unfold eVar
  rw [List.getElem?_cons_succ]
@[simp] theorem eC_def (d : D) : eC d env ah = .ok d ah := rfl
@[simp] theorem e1_def (ma : EM α) (f : α → AH → Res γ) : e1 ma f env ah = (ma env ah).bind f := rfl
@[simp] theorem e2_def (ma : EM α) (mb : EM β) (f : α → β → AH → Res γ) : e2 ma mb f env ah = (ma env ah).bind fun x ah1 => (mb env ah1).bind fun y ah2 => f x y ah2 := rfl
@[simp] theorem e3_def (ma : EM α) (mb : EM β) (mc : EM γ) (f : α → β → γ → AH → Res δ) : e3 ma mb mc f env ah = (ma env ah).bind fun x ah1 => (mb env ah1).bind fun y ah2 => (mc env ah2).bind fun z ah3 => f x y z ah3 := rfl
@[simp] theorem eB_def (m : EM Bool) : eB m env ah = (m env ah).bind fun b ah => .ok (.bl b) ah := rfl
@[simp] theorem aNil_def : aNil env ah = .ok [] ah := rfl
@[simp] theorem aCons_def (m : EM D) (r : EM (List D)) : aCons m r env ah = (m env ah).bind fun x ah1 => (r env ah1).bind fun xs ah2 => .ok (x :: xs) ah2 := rfl
@[simp] theorem bAnd_def (a b : EM Bool) : bAnd a b env ah = (a env ah).bind fun x ah1 => if x = true then b env ah1 else .ok false ah1 := rfl
@[simp] theorem bOr_def (a b : EM Bool) : bOr a b env ah = (a env ah).bind fun x ah1 => if x = true then .ok true ah1 else b env ah1 := rfl
@[simp] theorem bNot_def (a : EM Bool) : bNot a env ah = (a env ah).bind fun x ah1 => .ok (!x) ah1 := rfl
@[simp] theorem eAnd_def (a b : EM D) : eAnd a b env ah = (a env ah).bind fun x ah1 => (truth x ah1).bind fun k ah2 => if k = true then b env ah2 else .ok x ah2 := rfl
@[simp] theorem eOr_def (a b : EM D) : eOr a b env ah = (a env ah).bind fun x ah1 => (truth x ah1).bind fun k ah2 => if k = true then .ok x ah2 else b env ah2 := rfl
@[simp] theorem eNot_def (a : EM D) : eNot a env ah = (a env ah).bind fun x ah1 => (truth x ah1).bind fun k ah2 => .ok (.bl (!k)) ah2 := rfl
@[simp] theorem eIf_def (c : EM Bool) (a b : EM α) : eIf c a b env ah = (c env ah).bind fun x ah1 => if x = true then a env ah1 else b env ah1 := rfl
@[simp] theorem eTup_def (m : EM (List D)) : eTup m env ah = (m env ah).bind fun ds ah => if ds.length ≤ line then .ok (.tup ds) ah else .stuck := rfl
@[simp] theorem lLst_def (m : EM (List D)) : lLst m env ah = (m env ah).bind fun ds ah => if ds.length ≤ line then .ok ds ah else .stuck := rfl
@[simp] theorem eNew_def (m : EM (List D)) : eNew m env ah = (m env ah).bind fun ds ah => .ok (.ref ah.length) (ah ++ [.lst ds]) := rfl
@[simp] theorem tNew_def (m : EM (List D)) : tNew m env ah = (m env ah).bind fun ds ah => .ok (.inl ds) ah := rfl
@[simp] theorem tOur_def (m : EM D) : tOur m env ah = (m env ah).bind fun d ah => match d with
  | .ref n => .ok (.inr n) ah
  | _ => .stuck := rfl
@[simp] theorem oPart_none : oPart none env ah = .ok none ah := rfl
@[simp] theorem oPart_some (m : EM D) : oPart (some m) env ah = (m env ah).bind fun d ah => match d with
  | .int i => .ok (some i) ah
  | _ => .stuck := rfl
@[simp] theorem bChain_def (ma mb mc : EM D) (f g : D → D → AH → Res Bool) : bChain ma mb mc f g env ah = (ma env ah).bind fun x a1 => (mb env a1).bind fun y a2 => (f x y a2).bind fun c a3 => if c = true then (mc env a3).bind fun z a4 => g y z a4 else .ok false a3 := rfl
@[simp] theorem bNil_def (neg : Bool) (m : EM (List D)) : bNil neg m env ah = (m env ah).bind (lNil neg) := rfl
@[simp] theorem eMt_def (mo : EM D) (ml : EM (List D)) (f : D → List D → AH → Res D) : eMt mo ml f env ah = (mo env ah).bind fun d ah1 => if isList d ah1 = true then (ml env ah1).bind fun ds ah2 => f d ds ah2 else .stuck := rfl
@[simp] theorem iNew_def (m : EM (List D)) : iNew m env ah = (m env ah).bind fun ds ah => .ok ⟨ds, []⟩ ah := rfl
@[simp] theorem bYes_def : bYes env ah = .ok true ah := rfl
@[simp] theorem lLc_def (mi : EM Itm) (tm : TM) (test : EM Bool) (elt : EM D) (vs : List Nat) : lLc mi tm test elt vs env ah = (mi env ah).bind fun t ah1 => lcLoop t tm test elt vs env t.items [] ah1 := rfl
@[simp] theorem eDnew_def : eDnew env ah = .ok (.ref ah.length) (ah ++ [.dK []]) := rfl
@[simp] theorem eDisp_def (l : List (EM D × EM D)) : eDisp l env ah = (dPairs l env ah).bind fun ps ah1 => match optAll (fun p => (dKey p.1).map fun kk => (kk, p.2)) ps with
  | some kvs => if kvs.length ≤ 15 then .ok (.ref ah1.length) (ah1 ++ [.dK (dispD kvs)]) else .stuck
  | none => .stuck := rfl
@[simp] theorem dPairs_nil : dPairs [] env ah = .ok [] ah := rfl
@[simp] theorem dPairs_cons (mk mv : EM D) (r : List (EM D × EM D)) : dPairs ((mk, mv) :: r) env ah = (mk env ah).bind fun x ah1 => (mv env ah1).bind fun y ah2 => (dPairs r env ah2).bind fun ps ah3 => .ok ((x, y) :: ps) ah3 := rfl
@[simp] theorem thenS_ok (a : α) (f : α → AH → SRes) : (Res.ok a ah).thenS env f = f a ah := rfl
@[simp] theorem thenS_stuck (f : α → AH → SRes) : (Res.stuck : Res α).thenS env f = .stuck := rfl
@[simp] theorem thenS_exn (c : Str) (fs : Option (List (Str × D))) (f : α → AH → SRes) : (Res.exn c fs ah : Res α).thenS env f = .exn c fs env ah := rfl
def SRes.next (r : SRes) (b : SM) : SRes := match r with
  | .nx env1 ah1 => b env1 ah1
  | r => r
@[simp] theorem next_nx (b : SM) : (SRes.nx env ah).next b = b env ah := rfl
@[simp] theorem next_rt (d : D) (b : SM) : (SRes.rt d ah).next b = .rt d ah := rfl
@[simp] theorem next_bk (b : SM) : (SRes.bk env ah).next b = .bk env ah := rfl
@[simp] theorem next_ct (b : SM) : (SRes.ct env ah).next b = .ct env ah := rfl
@[simp] theorem next_exn (c : Str) (fs : Option (List (Str × D))) (b : SM) : (SRes.exn c fs env ah).next b = .exn c fs env ah := rfl
@[simp] theorem next_stuck (b : SM) : SRes.stuck.next b = .stuck := rfl
@[simp] theorem next_if (c : Prop) [Decidable c] (x y : SRes) (b : SM) : (if c then x else y).next b = if c then x.next b else y.next b := by split <;> rfl
@[simp] theorem sSeq_def (a b : SM) : sSeq a b env ah = (a env ah).next b := by unfold sSeq SRes.next; rfl
@[simp] theorem sSkip_def : sSkip env ah = .nx env ah := rfl
@[simp] theorem sRet_def (m : EM D) : sRet m env ah = (m env ah).thenS env fun d ah1 => .rt d ah1 := rfl
@[simp] theorem sRetN_def : sRetN env ah = .rt .non ah := rfl
@[simp] theorem sExpr_def (m : EM D) : sExpr m env ah = (m env ah).thenS env fun _ ah1 => .nx env ah1 := rfl
@[simp] theorem sIf_def (c : EM Bool) (a b : SM) : sIf c a b env ah = (c env ah).thenS env fun x ah1 => if x = true then a env ah1 else b env ah1 := rfl
@[simp] theorem sAsg_def (m : EM D) (t : TM) : sAsg m t env ah = (m env ah).thenS env fun d ah1 => match t d env ah1 with
  | some env1 => .nx env1 ah1
  | none => .stuck := rfl
@[simp] theorem sAsg_set (m : EM D) (i : Nat) : sAsg m (gSet i) env ah = (m env ah).thenS env fun d ah1 => .nx (env.set i (some d)) ah1 := rfl
@[simp] theorem gSet_def (i : Nat) (d : D) : gSet i d env ah = some (env.set i (some d)) := rfl
@[simp] theorem gTup_def (n : Nat) (u : List D → Env → AH → Option Env) (ds : List D) : gTupD n u (.tup ds) env ah = if ds.length = n then u ds env ah else none := rfl
@[simp] theorem gNil_def : gNilD [] env ah = some env := rfl
@[simp] theorem gCons_def (t : TM) (u : List D → Env → AH → Option Env) (d : D) (r : List D) : gConsD t u (d :: r) env ah = (t d env ah).bind fun env1 => u r env1 ah := rfl
@[simp] theorem sPut_def (mo mi mv : EM D) : sPut mo mi mv env ah = (mv env ah).thenS env fun v ah1 => (mo env ah1).thenS env fun d ah2 => (mi env ah2).thenS env fun kd ah3 => match d, dKey kd with
  | .ref n, some kk => match ah3[n]? with
    | some (.dK kvs) => if kvs.length < line then .nx env (ah3.set n (.dK (putD kvs kk v))) else .stuck
    | _ => .stuck
  | _, _ => .stuck := by
  unfold sPut
  rfl
@[simp] theorem sFor_def (mi : EM Itm) (tm : TM) (body : SM) : sFor mi tm body env ah = (mi env ah).thenS env fun t ah1 => forLoop t tm body t.items env ah1 := rfl
@[simp] theorem sPar2_def (i j : Nat) (ml : EM (List D)) : sPar2 i j ml env ah = (ml env ah).thenS env fun ds ah1 => match ds with
  | [x, y] => .nx ((env.set i (some x)).set j (some y)) ah1
  | _ => .stuck := rfl
@[simp] theorem bind_if (c : Prop) [Decidable c] (x y : Res α) (f : α → AH → Res β) : (if c then x else y).bind f = if c then x.bind f else y.bind f := by split <;> rfl
@[simp] theorem thenS_if (c : Prop) [Decidable c] (x y : Res α) (f : α → AH → SRes) : (if c then x else y).thenS env f = if c then x.thenS env f else y.thenS env f := by split <;> rfl
def SRes.fin (r : SRes) (ah : AH) : Res D := match r with
  | .nx _ ah' => HA.fin ah .non ah'
  | .rt d ah' => HA.fin ah d ah'
  | .exn c fs _ ah' => .exn c fs (finX ah fs ah')
  | _ => .stuck
@[simp] theorem sfin_nx (ah' : AH) : (SRes.nx env ah').fin ah = HA.fin ah .non ah' := rfl
@[simp] theorem sfin_rt (d : D) (ah' : AH) : (SRes.rt d ah').fin ah = HA.fin ah d ah' := rfl
@[simp] theorem sfin_exn (c : Str) (fs : Option (List (Str × D))) (ah' : AH) : (SRes.exn c fs env ah').fin ah = .exn c fs (finX ah fs ah') := rfl
@[simp] theorem sfin_if (c : Prop) [Decidable c] (x y : SRes) : (if c then x else y).fin ah = if c then x.fin ah else y.fin ah := by split <;> rfl
def SRes.out (r : SRes) : Res D := match r with
  | .nx _ ah' => .ok .non ah'
  | .rt d ah' => .ok d ah'
  | .exn c fs _ ah' => .exn c fs ah'
  | _ => .stuck
@[simp] theorem out_nx (ah' : AH) : (SRes.nx env ah').out = .ok .non ah' := rfl
@[simp] theorem out_rt (d : D) (ah' : AH) : (SRes.rt d ah').out = .ok d ah' := rfl
@[simp] theorem out_exn (c : Str) (fs : Option (List (Str × D))) (ah' : AH) : (SRes.exn c fs env ah').out = .exn c fs ah' := rfl
@[simp] theorem out_if (c : Prop) [Decidable c] (x y : SRes) : (if c then x else y).out = if c then x.out else y.out := by split <;> rfl
theorem fnR_1 (n : Nat) (mb : SM) (a : D) : fnR n 1 mb [a] ah = (mb (some a :: List.replicate (n - 1) none) ah).out := by unfold fnR SRes.out; rfl
theorem fnM_1 (n : Nat) (mb : SM) (a : D) : fnM n 1 mb [a] ah = (mb (some a :: List.replicate (n - 1) none) ah).fin ah := by unfold fnM SRes.fin; rfl
theorem fnM_2 (n : Nat) (mb : SM) (a b : D) : fnM n 2 mb [a, b] ah = (mb (some a :: some b :: List.replicate (n - 2) none) ah).fin ah := by unfold fnM SRes.fin; rfl
end
@[simp] theorem fin_same' (ah : AH) (d : D) : fin ah d ah = .ok d ah := fin_same ah d
@[simp] theorem oAdd_int (i j : Int) (ah : AH) : oAdd (.int i) (.int j) ah = .ok (.int (i + j)) ah := rfl
@[simp] theorem oAddA_int (i j : Int) (ah : AH) : oAddA (.int i) (.int j) ah = .ok (.int (i + j)) ah := rfl
@[simp] theorem oSub_int (i j : Int) (ah : AH) : oSub (.int i) (.int j) ah = .ok (.int (i - j)) ah := rfl
@[simp] theorem oNeg_int (i : Int) (ah : AH) : oNeg (.int i) ah = .ok (.int (-i)) ah := rfl
theorem log2_lt {i : Int} {n : Nat} (hn : 0 < n) (h : i.natAbs < 2 ^ n) : i.natAbs.log2 < n := by
  by_cases z : i.natAbs = 0
  · rw [z]; simpa using hn
  · exact (Nat.log2_lt z).mpr h
theorem mulOk_of {i j : Int} (h1 : i.natAbs < 2 ^ 1000) (h2 : j.natAbs < 2 ^ 1000) : mulOk i j = true := by
  unfold mulOk
  have a := log2_lt (by decide) h1
  have b := log2_lt (by decide) h2
  rw [decide_eq_true_eq]
  omega
theorem oMul_int {i j : Int} (ah : AH) (h1 : i.natAbs < 2 ^ 1000) (h2 : j.natAbs < 2 ^ 1000) : oMul (.int i) (.int j) ah = .ok (.int (i * j)) ah := by
  unfold oMul
  simp only
  rw [if_pos (mulOk_of h1 h2)]
theorem oFdiv_int {i j : Int} (ah : AH) (h1 : 0 < j) (h2 : j < 2 ^ 1000) : oFdiv (.int i) (.int j) ah = .ok (.int (i / j)) ah := by
  unfold oFdiv
  simp only
  have := log2_lt (i := j) (n := 1000) (by decide) (by omega)
  rw [if_pos ⟨h1, by omega⟩]
theorem oMod_int {i j : Int} (ah : AH) (h1 : 0 < j) : oMod (.int i) (.int j) ah = .ok (.int (i % j)) ah := by
  unfold oMod
  simp only
  rw [if_pos h1]
theorem oPow_int {i j : Int} (ah : AH) (h1 : 0 ≤ j ∧ j ≤ 1000000 ∧ i.natAbs < 2 ^ 64) : oPow (.int i) (.int j) ah = .ok (.int (i ^ j.toNat)) ah := by
  unfold oPow
  simp only
  rw [if_pos h1]
@[simp] theorem cEq_int (i j : Int) (ah : AH) : cEq (.int i) (.int j) ah = .ok (decide (i = j)) ah := rfl
@[simp] theorem cEq_str (i j : Str) (ah : AH) : cEq (.str i) (.str j) ah = .ok (decide (i = j)) ah := rfl
@[simp] theorem cEq_bl (i j : Bool) (ah : AH) : cEq (.bl i) (.bl j) ah = .ok (decide (i = j)) ah := rfl
@[simp] theorem cNe_int (i j : Int) (ah : AH) : cNe (.int i) (.int j) ah = .ok (!decide (i = j)) ah := rfl
@[simp] theorem cNe_str (i j : Str) (ah : AH) : cNe (.str i) (.str j) ah = .ok (!decide (i = j)) ah := rfl
@[simp] theorem cNe_bl (i j : Bool) (ah : AH) : cNe (.bl i) (.bl j) ah = .ok (!decide (i = j)) ah := rfl
@[simp] theorem cLt_int (i j : Int) (ah : AH) : cLt (.int i) (.int j) ah = .ok (decide (i < j)) ah := rfl
@[simp] theorem cLe_int (i j : Int) (ah : AH) : cLe (.int i) (.int j) ah = .ok (decide (i ≤ j)) ah := rfl
@[simp] theorem cGt_int (i j : Int) (ah : AH) : cGt (.int i) (.int j) ah = .ok (decide (j < i)) ah := rfl
@[simp] theorem cGe_int (i j : Int) (ah : AH) : cGe (.int i) (.int j) ah = .ok (decide (j ≤ i)) ah := rfl
@[simp] theorem truth_bl (b : Bool) (ah : AH) : truth (.bl b) ah = .ok b ah := rfl
@[simp] theorem truth_non (ah : AH) : truth .non ah = .ok false ah := rfl
@[simp] theorem truth_int (i : Int) (ah : AH) : truth (.int i) ah = .ok (i != 0) ah := rfl
@[simp] theorem oLen_tup (ds : List D) (ah : AH) : oLenA [.tup ds] ah = .ok (.int ds.length) ah := rfl
@[simp] theorem oIsi_def (d : D) (T : String) (ah : AH) : oIsi [d, .cst (.ty T)] ah = match tyName d ah with
  | some a => if T ∈ tyTable then .ok (.bl (tyIs a T)) ah else .stuck
  | none => .stuck := rfl
theorem ixD_nat {α : Type} {xs : List α} {i : Nat} {x : α} (h : xs[i]? = some x) : ixD xs (i : Int) = some x := by
  have hi : i < xs.length := (List.getElem?_eq_some_iff.mp h).1
  unfold ixD ixN
  have e : xs[i] = x := by rw [List.getElem?_eq_getElem hi] at h; exact Option.some.inj h
  simp [hi, e]
@[simp] theorem okIn_nil (ds : List D) (ah : AH) : (⟨ds, []⟩ : Itm).okIn ah = true := rfl
@[simp] theorem forLoop_nil (t : Itm) (tm : TM) (body : SM) (env : Env) (ah : AH) : forLoop t tm body [] env ah = if t.okIn ah = true then .nx env ah else .stuck := rfl
def SRes.turn (r : SRes) (k : SM) : SRes := match r with
  | .nx env ah => k env ah
  | .ct env ah => k env ah
  | .bk env ah => .nx env ah
  | r => r
@[simp] theorem turn_nx (env : Env) (ah : AH) (k : SM) : (SRes.nx env ah).turn k = k env ah := rfl
@[simp] theorem turn_ct (env : Env) (ah : AH) (k : SM) : (SRes.ct env ah).turn k = k env ah := rfl
@[simp] theorem turn_bk (env : Env) (ah : AH) (k : SM) : (SRes.bk env ah).turn k = .nx env ah := rfl
@[simp] theorem turn_rt (d : D) (ah : AH) (k : SM) : (SRes.rt d ah).turn k = .rt d ah := rfl
@[simp] theorem turn_exn (c : Str) (fs : Option (List (Str × D))) (env : Env) (ah : AH) (k : SM) : (SRes.exn c fs env ah).turn k = .exn c fs env ah := rfl
@[simp] theorem turn_stuck (k : SM) : SRes.stuck.turn k = .stuck := rfl
@[simp] theorem turn_if (c : Prop) [Decidable c] (x y : SRes) (k : SM) : (if c then x else y).turn k = if c then x.turn k else y.turn k := by split <;> rfl
@[simp] theorem forLoop_cons (t : Itm) (tm : TM) (body : SM) (d : D) (ds : List D) (env : Env) (ah : AH) : forLoop t tm body (d :: ds) env ah = if t.okIn ah = true then match tm d env ah with
    | some env1 => (body env1 ah).turn (forLoop t tm body ds)
    | none => .stuck else .stuck := by
  show (if t.okIn ah = true then _ else _) = _
  split
  · cases tm d env ah with
    | none => rfl
    | some env1 => simp only; cases body env1 ah <;> rfl
  · rfl
@[simp] theorem iVal_tup (ds : List D) (ah : AH) : iVal (.tup ds) ah = .ok ⟨ds, []⟩ ah := rfl
@[simp] theorem get_app0 {α : Type} (l r : List α) (a : α) : (l ++ a :: r)[l.length]? = some a := by simp
end HA
namespace HA
open PySem PySem.Spec PyProof.Rows L2
mutual
def tame (B : Nat) : PyData → Bool
  | .none | .bool _ => true
  | .int i => decide (i.natAbs ≤ B)
  | .str x => x.cps.toList.all fun c => decide (c < 16 ^ 8)
  | .list xs | .tuple xs => tames B xs
  | .dict kvs => tameKv B kvs
def tames (B : Nat) : List PyData → Bool
  | [] => true
  | x :: xs => tame B x && tames B xs
def tameKv (B : Nat) : List (PyData × PyData) → Bool
  | [] => true
  | (k, v) :: r => tame B k && tame B v && tameKv B r
end
mutual
theorem tame_leaf {B : Nat} (hB : B < 2 ^ 290) : ∀ p : PyData, tame B p = true → p.leavesShort 300 = true ∧ p.showable = true
  | .none, _ => ⟨rfl, rfl⟩
  | .bool _, _ => ⟨rfl, rfl⟩
  | .int i, h => by
    have h' : i.natAbs ≤ B := by simpa only [tame, decide_eq_true_eq] using h
    have l : i.natAbs.log2 < 290 := log2_lt (by decide) (Nat.lt_of_le_of_lt h' hB)
    simp only [PyData.leavesShort, PyData.showable, decide_eq_true_eq, PyData.shown]
    refine ⟨decide_eq_true ?_, by omega⟩
    rw [PySem.ofString_length]
    exact Nat.le_trans (int_text_length_le (k := 290) (by decide) l) (show 290 + 1 ≤ 300 by decide)
  | .str x, h => by
    simp only [PyData.leavesShort, PyData.showable]
    exact ⟨by simpa only [tame] using h, trivial⟩
  | .list xs, h => by
    simp only [PyData.leavesShort, PyData.showable]
    exact tames_leaf hB xs (by simpa only [tame] using h)
  | .tuple xs, h => by
    simp only [PyData.leavesShort, PyData.showable]
    exact tames_leaf hB xs (by simpa only [tame] using h)
  | .dict kvs, h => by
    simp only [PyData.leavesShort, PyData.showable]
    exact tameKv_leaf hB kvs (by simpa only [tame] using h)
theorem tames_leaf {B : Nat} (hB : B < 2 ^ 290) : ∀ ps : List PyData, tames B ps = true → PyData.leavesShortAll 300 ps = true ∧ PyData.showableAll ps = true
  | [], _ => ⟨rfl, rfl⟩
  | x :: xs, h => by
    simp only [tames, Bool.and_eq_true] at h
    have a := tame_leaf hB x h.1
    have b := tames_leaf hB xs h.2
    simp only [PyData.leavesShortAll, PyData.showableAll, Bool.and_eq_true]
    exact ⟨⟨a.1, b.1⟩, a.2, b.2⟩
theorem tameKv_leaf {B : Nat} (hB : B < 2 ^ 290) : ∀ ps : List (PyData × PyData), tameKv B ps = true → PyData.leavesShortKv 300 ps = true ∧ PyData.showableKv ps = true
  | [], _ => ⟨rfl, rfl⟩
  | (k, v) :: r, h => by
    simp only [tameKv, Bool.and_eq_true] at h
    have a := tame_leaf hB k h.1.1
    have b := tame_leaf hB v h.1.2
    have c := tameKv_leaf hB r h.2
    simp only [PyData.leavesShortKv, PyData.showableKv, Bool.and_eq_true]
    exact ⟨⟨⟨a.1, b.1⟩, c.1⟩, ⟨a.2, b.2⟩, c.2⟩
end
mutual
theorem tame_mono {B C : Nat} (h : B ≤ C) : ∀ p : PyData, tame B p = true → tame C p = true
  | .none, _ => rfl
  | .bool _, _ => rfl
  | .int i, e => by simp only [tame, decide_eq_true_eq] at e ⊢; omega
  | .str x, e => by simpa only [tame] using e
  | .list xs, e => by simp only [tame] at e ⊢; exact tames_mono h xs e
  | .tuple xs, e => by simp only [tame] at e ⊢; exact tames_mono h xs e
  | .dict kvs, e => by simp only [tame] at e ⊢; exact tameKv_mono h kvs e
theorem tames_mono {B C : Nat} (h : B ≤ C) : ∀ ps : List PyData, tames B ps = true → tames C ps = true
  | [], _ => rfl
  | x :: xs, e => by simp only [tames, Bool.and_eq_true] at e ⊢; exact ⟨tame_mono h x e.1, tames_mono h xs e.2⟩
theorem tameKv_mono {B C : Nat} (h : B ≤ C) : ∀ ps : List (PyData × PyData), tameKv B ps = true → tameKv C ps = true
  | [], _ => rfl
  | (k, v) :: r, e => by simp only [tameKv, Bool.and_eq_true] at e ⊢; exact ⟨⟨tame_mono h k e.1.1, tame_mono h v e.1.2⟩, tameKv_mono h r e.2⟩
end
theorem tame_len {B : Nat} (hB : B < 2 ^ 290) {p : PyData} (h : tame B p = true) (hw : p.weight ≤ 50000) : p.shown.length ≤ line := by
  have := PyData.shown_le 300 (by decide) p (tame_leaf hB p h).1
  have : (300 + 2) * p.weight ≤ 302 * 50000 := Nat.mul_le_mul (by decide) hw
  unfold line
  omega
theorem tames_app {B : Nat} : ∀ (xs ys : List PyData), tames B (xs ++ ys) = (tames B xs && tames B ys)
  | [], ys => rfl
  | x :: xs, ys => by simp only [List.cons_append, tames, tames_app xs ys, Bool.and_assoc]
theorem weightAll_app : ∀ (xs ys : List PyData), PyData.weightAll (xs ++ ys) = PyData.weightAll xs + PyData.weightAll ys
  | [], ys => by simp [PyData.weightAll]
  | x :: xs, ys => by simp only [List.cons_append, PyData.weightAll, weightAll_app xs ys]; omega
theorem optAll_app {α β : Type} {f : α → Option β} : ∀ {xs ys : List α} {ps qs : List β}, optAll f xs = some ps → optAll f ys = some qs → optAll f (xs ++ ys) = some (ps ++ qs)
  | [], ys, ps, qs, h1, h2 => by cases h1; exact h2
  | x :: xs, ys, ps, qs, h1, h2 => by
    obtain ⟨b, cs, rfl, e1, e2⟩ := optAll_cons h1
    simp only [List.cons_append, optAll, e1, optAll_app e2 h2]
theorem optAll_mono {α β : Type} {f g : α → Option β} (h : ∀ a b, f a = some b → g a = some b) : ∀ {xs : List α} {ps : List β}, optAll f xs = some ps → optAll g xs = some ps
  | [], ps, h' => by cases h'; rfl
  | x :: xs, ps, h' => by
    obtain ⟨b, cs, rfl, e1, e2⟩ := optAll_cons h'
    simp only [optAll, h _ _ e1, optAll_mono h e2]
def Vis (o : AObj) : Bool := match o with
  | .lst _ | .ro _ | .dK _ => true
  | _ => false
def Le (ah ah' : AH) : Prop := ∀ (i : Nat) (o : AObj), ah[i]? = some o → Vis o = true → ah'[i]? = some o
theorem Le.refl (ah : AH) : Le ah ah := fun _ _ h _ => h
theorem Le.trans {a b c : AH} (h1 : Le a b) (h2 : Le b c) : Le a c := fun i o e v => h2 i o (h1 i o e v) v
theorem Le.app (ah x : AH) : Le ah (ah ++ x) := fun i o e _ => by
  rw [List.getElem?_append_left (List.getElem?_eq_some_iff.mp e).1]; exact e
theorem toP_heap {ah ah' : AH} (h : Le ah ah') : ∀ (f g : Nat) (d : D) (p : PyData), f ≤ g → toP ah f d = some p → toP ah' g d = some p
  | 0, _, _, _, _, e => by cases e
  | f + 1, 0, _, _, l, _ => by omega
  | f + 1, g + 1, d, p, l, e => by
    have ih : ∀ {ds : List D} {ps : List PyData}, optAll (toP ah f) ds = some ps → optAll (toP ah' g) ds = some ps := fun q => optAll_mono (fun a b => toP_heap h f g a b (by omega)) q
    cases d with
    | non => exact e
    | bl b => exact e
    | int i => exact e
    | str x => exact e
    | cst v => cases e
    | glo v => cases e
    | xv a d ks ds => cases e
    | tup ds =>
      simp only [toP, Option.map_eq_some_iff] at e ⊢
      obtain ⟨ps, q, r⟩ := e
      exact ⟨ps, ih q, r⟩
    | ref n =>
      simp only [toP] at e ⊢
      cases q : ah[n]? with
      | none => rw [q] at e; cases e
      | some o =>
        rw [q] at e
        cases o with
        | lst ds =>
          rw [h n _ q rfl]
          simp only [Option.map_eq_some_iff] at e ⊢
          obtain ⟨ps, q, r⟩ := e
          exact ⟨ps, ih q, r⟩
        | ro ds =>
          rw [h n _ q rfl]
          simp only [Option.map_eq_some_iff] at e ⊢
          obtain ⟨ps, q, r⟩ := e
          exact ⟨ps, ih q, r⟩
        | dK kvs =>
          rw [h n _ q rfl]
          simp only [Option.map_eq_some_iff] at e ⊢
          obtain ⟨ps, q, r⟩ := e
          exact ⟨ps, ih q, r⟩
        | dT kvs => cases e
        | ins C fs => cases e
theorem depthAll_le {n : Nat} : ∀ {ps : List PyData}, (∀ p ∈ ps, p.depth ≤ n) → PyData.depthAll ps ≤ n
  | [], _ => Nat.zero_le _
  | p :: ps, h => by
    simp only [PyData.depthAll]
    exact Nat.max_le.mpr ⟨h p (by simp), depthAll_le fun q hq => h q (List.mem_cons_of_mem _ hq)⟩
theorem depthKv_le {n : Nat} : ∀ {ps : List (PyData × PyData)}, (∀ p ∈ ps, p.1.depth ≤ n ∧ p.2.depth ≤ n) → PyData.depthKv ps ≤ n
  | [], _ => Nat.zero_le _
  | (a, b) :: ps, h => by
    simp only [PyData.depthKv]
    exact Nat.max_le.mpr ⟨Nat.max_le.mpr (h (a, b) (by simp)), depthKv_le fun q hq => h q (List.mem_cons_of_mem _ hq)⟩
theorem optAll_mem {α β : Type} {f : α → Option β} : ∀ {xs : List α} {ps : List β}, optAll f xs = some ps → ∀ p ∈ ps, ∃ x ∈ xs, f x = some p
  | [], ps, h, p, hp => by cases h; cases hp
  | x :: xs, ps, h, p, hp => by
    obtain ⟨b, cs, rfl, e1, e2⟩ := optAll_cons h
    rcases List.mem_cons.mp hp with rfl | z
    · exact ⟨x, by simp, e1⟩
    · obtain ⟨y, hy, q⟩ := optAll_mem e2 p z
      exact ⟨y, List.mem_cons_of_mem _ hy, q⟩
theorem toP_depth {ah : AH} : ∀ (f : Nat) (d : D) (p : PyData), toP ah f d = some p → p.depth ≤ f
  | 0, _, _, e => by cases e
  | f + 1, d, p, e => by
    have ih : ∀ {ds : List D} {ps : List PyData}, optAll (toP ah f) ds = some ps → ∀ p ∈ ps, p.depth ≤ f := fun {ds ps} q p hp => by
      obtain ⟨x, _, e⟩ := optAll_mem q p hp
      exact toP_depth f x p e
    cases d with
    | non => cases e; simp [PyData.depth]
    | bl b => cases e; simp [PyData.depth]
    | int i => cases e; simp [PyData.depth]
    | str x => cases e; simp [PyData.depth]
    | cst v => cases e
    | glo v => cases e
    | xv a d ks ds => cases e
    | tup ds =>
      simp only [toP, Option.map_eq_some_iff] at e
      obtain ⟨ps, q, rfl⟩ := e
      simp only [PyData.depth]
      exact Nat.succ_le_succ (depthAll_le (ih q))
    | ref n =>
      simp only [toP] at e
      split at e
      · simp only [Option.map_eq_some_iff] at e
        obtain ⟨ps, q, rfl⟩ := e
        simp only [PyData.depth]
        exact Nat.succ_le_succ (depthAll_le (ih q))
      · simp only [Option.map_eq_some_iff] at e
        obtain ⟨ps, q, rfl⟩ := e
        simp only [PyData.depth]
        exact Nat.succ_le_succ (depthAll_le (ih q))
      · simp only [Option.map_eq_some_iff] at e
        obtain ⟨ps, q, rfl⟩ := e
        simp only [PyData.depth]
        refine Nat.succ_le_succ (depthKv_le fun z hz => ?_)
        obtain ⟨h1, h2⟩ := List.of_mem_zip hz
        refine ⟨?_, ih q _ h2⟩
        obtain ⟨kv, _, hk⟩ := List.mem_map.mp h1
        rw [← hk]
        cases kv.1 <;> simp [keyP, PyData.depth]
      · cases e
def Dat (B : Nat) (ah : AH) (n w : Nat) (d : D) : Prop := ∃ p, toP ah n d = some p ∧ tame B p = true ∧ p.weight ≤ w
theorem Dat.mono {B C : Nat} {ah ah' : AH} {n n' w w' : Nat} {d : D} (h : Dat B ah n w d) (l : Le ah ah') (hB : B ≤ C) (hn : n ≤ n') (hw : w ≤ w') : Dat C ah' n' w' d := by
  obtain ⟨p, e, t, k⟩ := h
  exact ⟨p, toP_heap l n n' d p hn e, tame_mono hB p t, by omega⟩
theorem Dat.repr {B : Nat} {ah : AH} {n w : Nat} {d : D} (h : Dat B ah n w d) (hB : B < 2 ^ 290) (hn : n ≤ 63) (hw : w ≤ 50000) : ∃ s : Str, ∀ ah', Le ah ah' → oRepr [d] ah' = .ok (.str s) ah' := by
  obtain ⟨p, e, t, k⟩ := h
  refine ⟨p.shown, fun ah' l => ?_⟩
  have q : pd ah' d = some p := toP_heap l n 63 d p hn e
  have q0 := toP_depth n d p e
  unfold oRepr
  simp only [q]
  rw [if_pos ⟨(tame_leaf hB p t).2, tame_len hB t (by omega), by omega⟩]
end HA
namespace HA
open PySem PySem.Spec PyProof.Rows L2
theorem eqv_tup_nil (ps : List PyData) : PyData.eqv (.tuple ps) (.tuple []) = ps.isEmpty := by
  cases ps <;> simp [PyData.eqv, PyData.eqvAll]
theorem cEq_tupNil (ds : List D) (ah : AH) : cEq (.tup ds) (.tup []) ah = .ok ds.isEmpty ah := by
  unfold cEq
  simp only
  split
  · rename_i b e
    unfold eqData at e
    split at e
    · rename_i p q e1 e2
      split at e
      · cases e
        have q0 : q = .tuple [] := by
          have : pd ah (.tup []) = some (.tuple []) := rfl
          rw [this] at e2; cases e2; rfl
        have : ∃ ps, optAll (toP ah 62) ds = some ps ∧ PyData.tuple ps = p := by
          simpa [pd, deep, toP, Option.map_eq_some_iff] using e1
        obtain ⟨ps, h1, rfl⟩ := this
        rw [q0, eqv_tup_nil]
        have := optAll_length h1
        cases ds <;> cases ps <;> simp_all
      · cases e
    · cases e
  · simp [eqLen]
@[simp] theorem cNe_tupNil (ds : List D) (ah : AH) : cNe (.tup ds) (.tup []) ah = .ok (!ds.isEmpty) ah := by
  unfold cNe
  rw [cEq_tupNil]
  rfl
theorem cut_head {α : Type} (xs : List α) (i : Nat) : cut xs none (some (i : Int)) = xs.take i := by
  unfold cut
  rw [HT.sIx_none, HT.sIx_nat]
  simp
theorem cut_tail {α : Type} (xs : List α) (i : Nat) : cut xs (some (i : Int)) none = xs.drop i := by
  unfold cut
  rw [HT.sIx_none, HT.sIx_nat]
  by_cases h : i ≤ xs.length
  · rw [Nat.min_eq_left h, List.take_of_length_le (by simp)]
  · rw [Nat.min_eq_right (by omega), List.drop_of_length_le (Nat.le_refl _), List.drop_of_length_le (by omega)]
    simp
@[simp] theorem oCut_head (ds : List D) (i : Nat) (ah : AH) : oCut (.tup ds) none (some (i : Int)) ah = .ok (.tup (ds.take i)) ah := by simp [oCut, cut_head]
@[simp] theorem oCut_tail (ds : List D) (i : Nat) (ah : AH) : oCut (.tup ds) (some (i : Int)) none ah = .ok (.tup (ds.drop i)) ah := by simp [oCut, cut_tail]
@[simp] theorem oCut_tail1 (ds : List D) (i : Nat) (ah : AH) : oCut (.tup ds) (some ((i : Int) + 1)) none ah = .ok (.tup (ds.drop (i + 1))) ah := oCut_tail ds (i + 1) ah
@[simp] theorem oCut_head1 (ds : List D) (i : Nat) (ah : AH) : oCut (.tup ds) none (some ((i : Int) + 1)) ah = .ok (.tup (ds.take (i + 1))) ah := oCut_head ds (i + 1) ah
@[simp] theorem oRevT_tup (ds : List D) (ah : AH) : oRevT (.tup ds) ah = .ok (.tup ds.reverse) ah := rfl
theorem oAdd_tup {xs ys : List D} (ah : AH) (h : xs.length + ys.length ≤ line) : oAdd (.tup xs) (.tup ys) ah = .ok (.tup (xs ++ ys)) ah := by simp [oAdd, h]
theorem Dat.tup {B : Nat} {ah : AH} {n w : Nat} {ds : List D} {ps : List PyData} (h : optAll (toP ah n) ds = some ps) (t : tames B ps = true) (hw : PyData.weightAll ps ≤ w) : Dat B ah (n + 1) w (.tup ds) :=
  ⟨.tuple ps, by simp [toP, h], by simpa [tame] using t, by simpa [PyData.weight] using hw⟩
theorem Dat.lst {B : Nat} {ah : AH} {n w m : Nat} {ds : List D} {ps : List PyData} (hm : ah[m]? = some (.lst ds)) (h : optAll (toP ah n) ds = some ps) (t : tames B ps = true) (hw : PyData.weightAll ps ≤ w) : Dat B ah (n + 1) w (.ref m) :=
  ⟨.list ps, by simp [toP, hm, h], by simpa [tame] using t, by simpa [PyData.weight] using hw⟩
end HA
namespace HA
open PySem PySem.Spec PyProof.Rows L2
@[simp] theorem iRange1_nat (n : Nat) (ah : AH) (h : n < 2 ^ 62 := by decide) : iRange1 (.int n) ah = .ok ⟨(List.range n).map fun (i : Nat) => D.int i, []⟩ ah := by
  unfold iRange1
  simp only
  rw [if_pos (by omega)]
  simp
end HA
namespace HA
open PySem PySem.Spec PyProof.Rows L2
section
variable (ah : AH) (f : Nat)
@[simp] theorem toP_non : toP ah (f + 1) .non = some .none := rfl
@[simp] theorem toP_bl (b : Bool) : toP ah (f + 1) (.bl b) = some (.bool b) := rfl
@[simp] theorem toP_int (i : Int) : toP ah (f + 1) (.int i) = some (.int i) := rfl
@[simp] theorem toP_str (x : Str) : toP ah (f + 1) (.str x) = some (.str x) := rfl
theorem toP_tup (ds : List D) : toP ah (f + 1) (.tup ds) = (optAll (toP ah f) ds).map .tuple := rfl
end
end HA
namespace HA
open PySem PySem.Spec PyProof.Rows L2
end HA
namespace HA
open PySem PySem.Spec PyProof.Rows L2 RT
section
variable {prog : Program} {w : World} {A : Around} {E : Value → Shared → Prop} {s : Shared} {R : Result → Shared → Prop}
end
section
variable {X : Cx} {W : WX} {e : Expr} {ml : EM (List D)}
def tListRev (K : PySem.W.Frag) (te : TE) : TE := fun σ H Q => te σ H fun v H1 => ∃ (a : Addr) (xs : List V), v = .ref a ∧ SqL K H1 a xs ∧ ∀ q, H1 q = none → Q (.ref q) (upd H1 q (.lst xs.reverse))
end
end HA
namespace HA
open PySem PySem.Spec PyProof.Rows L2 RT
section
variable {prog : Program} {w : World} {A : Around} {E : Value → Shared → Prop} {s : Shared} {R : Result → Shared → Prop}
end
section
variable {X : Cx} {W : WX} {pos : Pos}
def gStar (K : PySem.W.Frag) (n : Nat) (t : TGs) : TG := fun v σ H Q => ∃ a xs, v = .ref a ∧ SqT K H a xs ∧ n ≤ xs.length ∧ ∀ p, H p = none → t (xs.take n ++ [.ref p]) σ (upd H p (.lst (xs.drop n))) Q
end
end HA
namespace HA
open PySem PySem.Spec PyProof.Rows L2
abbrev TMX := D → HA.Env → AH → Option (HA.Env × AH)
def tGtX (K : PySem.W.Frag) (ts : List Nat) (tm : TMX) : TG := fun v σ H Q => ∃ μ env ah d p, EnvRel K μ H env σ ∧ Sim K μ H ah ∧ Rep K μ H d v ∧ tm d env ah = some p ∧ ∀ μ' σ' H', Ext K μ H μ' H' → Sim K μ' H' p.2 → EnvRel K μ' H' p.1 σ' → But ts σ σ' → Q σ' H'
def PTX (X : Cx) (tg : Expr) (ts : List Nat) (tm : TMX) : Prop := PG X tg (tGtX X.K ts tm)
def gStarD (n : Nat) (u : List D → HA.Env → AH → Option HA.Env) : TMX := fun d env ah => match d with
  | .tup ds => if n ≤ ds.length then (u (ds.take n ++ [.ref ah.length]) env (ah ++ [.lst (ds.drop n)])).map fun env1 => (env1, ah ++ [.lst (ds.drop n)]) else none
  | _ => none
def forLoopX (t : Itm) (tm : TMX) (body : SM) : List D → HA.Env → AH → SRes
  | [], env, ah => if t.okIn ah = true then .nx env ah else .stuck
  | d :: ds, env, ah => if t.okIn ah = true then match tm d env ah with
    | some p => (body p.1 p.2).turn (forLoopX t tm body ds)
    | none => .stuck else .stuck
def sForX (mi : EM Itm) (tm : TMX) (body : SM) : SM := fun env ah => (mi env ah).thenS env fun t ah1 => forLoopX t tm body t.items env ah1
def sAsgX (m : EM D) (tm : TMX) : SM := fun env ah => (m env ah).thenS env fun d ah1 => match tm d env ah1 with
  | some p => .nx p.1 p.2
  | none => .stuck
section
variable {X : Cx} {W : WX} {e tg : Expr} {es es' : List Expr} {m : EM D} {pos : Pos} {ts : List Nat} {n : Nat}
def unStar : List Expr → List Expr
  | [] => []
  | .Starred t _ :: r => t :: unStar r
  | e :: r => e :: unStar r
end
end HA
namespace HA
open PySem PySem.Spec PyProof.Rows L2
def maxOf : List Int → Int → Int
  | [], d => d
  | n :: ns, _ => ns.foldl max n
def oMaxD (xs zs : List D) (ah : AH) : Res D := match xs, zs with
  | [.ref n], [.int k] => match listAt ah n with
    | some ds => match optAll dInt ds with
      | some ns => .ok (.int (maxOf ns k)) ah
      | none => .stuck
    | none => .stuck
  | _, _ => .stuck
end HA
namespace HA
open PySem PySem.Spec PyProof.Rows L2
theorem tuple_mul1 (l : Addr) (items : Array Value) (n : Nat) (dd : Option Addr) (sl : Array (Option Value)) (u : Tok) :
    Meets (Builtin.«tuple.__mul__» ⟨[.ref l, .int 1 u], []⟩) (fun _ R s => s.heap.get? l = some { cls := .type "tuple", dict := dd, data := .seq items n, slots := sl } ∧ R (.ok (.ret (Value.ref l))) s) :=
  .of_wp fun prog w A R s h => by
    obtain ⟨hp, g, d, tk, os⟩ := s
    obtain ⟨hl, h⟩ := h
    have f1 := AutoSeq1.idx_int
    have c1 : (items.isEmpty || (1 : Int) == 1) = true := by simp
    wp_walk using wpAny_loadPart' hl
    exact ⟨_, rfl, h⟩
theorem tuple_mul0 (l : Addr) (items : Array Value) (n : Nat) (dd : Option Addr) (sl : Array (Option Value)) (u : Tok) (c1 : items.isEmpty = false) :
    Meets (Builtin.«tuple.__mul__» ⟨[.ref l, .int 0 u], []⟩) (fun _ R s => s.heap.get? l = some { cls := .type "tuple", dict := dd, data := .seq items n, slots := sl } ∧
      R (.ok (.ret (Value.ref s.heap.objs.size))) { s with heap := s.heap.push { cls := Value.type "tuple", data := Data.seq #[] }, toks := s.toks }) :=
  .of_wp fun prog w A R s h => by
    obtain ⟨hp, g, d, tk, os⟩ := s
    obtain ⟨hl, h⟩ := h
    have f1 := AutoSeq1.idx_int
    have c2 : (items.isEmpty || (0 : Int) == 1) = false := by rw [c1]; rfl
    have c3 : (decide ((0 : Int) ≤ 0) || items.isEmpty) = true := by simp
    wp_walk using wpAny_loadPart' hl
    repeat (first
      | (refine wpAny_ite_false (by rw [c2]; exact Bool.false_ne_true) ?_; wp_walk using wpAny_loadPart' hl)
      | (refine wpAny_ite_true (by rw [c3]) ?_; wp_walk using wpAny_loadPart' hl))
    exact ⟨_, rfl, h⟩
section
variable {X : Cx}
theorem op_rep1 : OpR X (binaryOp .Mult) (fun x y H Q => ∃ l xs, x = .ref l ∧ y = .int 1 ∧ SqT X.K H l xs ∧ Q (.ref l) H) := by
  intro pins s σ H x y v u Q I rx ry ⟨l, xs, e1, e2, hT, q⟩
  subst e1; subst e2
  cases rx
  obtain ⟨t, rfl⟩ := ry
  obtain ⟨its, r, ⟨⟨cls, dd, data, sl⟩, ho, hc, n, hd⟩, hs⟩ := I.tuple hT
  simp only at hc hd
  subst hc hd
  refine wpAny_binaryOp_repeat_ref (T := "tuple") (U := "int") (by decide) ⟨_, ho, rfl⟩ (fun s' => typeIs_int s' 1 t) noFill_tuple_mul F.fills_int_mul F.slot_int_rmul repeat_tuple F.slot_int_index.lookup
    (call_meets F.slot_int_rmul (typeIs_int s 1 t) F.entry_int_rmul (F.args_int_rmul_2 _ _) (int_rmul_tuple 1 t l its.toArray n dd sl) ⟨ho, rfl, ⟨_, ho, rfl⟩, call_meets F.slot_tuple_mul ⟨_, ho, rfl⟩ F.entry_tuple_mul (F.args_tuple_mul_2 _ _) (tuple_mul1 l its.toArray n dd sl t) ⟨ho, ?_⟩⟩)
  exact ⟨.ref l, H, I, rfl, q⟩
theorem op_rep0 : OpR X (binaryOp .Mult) (fun x y H Q => ∃ l xs, x = .ref l ∧ y = .int 0 ∧ SqT X.K H l xs ∧ xs ≠ [] ∧ ∀ p, H p = none → Q (.ref p) (upd H p (.tup []))) := by
  intro pins s σ H x y v u Q I rx ry ⟨l, xs, e1, e2, hT, hne, q⟩
  subst e1; subst e2
  cases rx
  obtain ⟨t, rfl⟩ := ry
  obtain ⟨its, r, ⟨⟨cls, dd, data, sl⟩, ho, hc, n, hd⟩, hs⟩ := I.tuple hT
  simp only at hc hd
  subst hc hd
  have hi : its.toArray.isEmpty = false := by
    cases its with
    | nil => exact absurd (List.eq_nil_of_length_eq_zero r.length) hne
    | cons a b => rfl
  refine wpAny_binaryOp_repeat_ref (T := "tuple") (U := "int") (by decide) ⟨_, ho, rfl⟩ (fun s' => typeIs_int s' 0 t) noFill_tuple_mul F.fills_int_mul F.slot_int_rmul repeat_tuple F.slot_int_index.lookup
    (call_meets F.slot_int_rmul (typeIs_int s 0 t) F.entry_int_rmul (F.args_int_rmul_2 _ _) (int_rmul_tuple 0 t l its.toArray n dd sl) ⟨ho, rfl, ⟨_, ho, rfl⟩, call_meets F.slot_tuple_mul ⟨_, ho, rfl⟩ F.entry_tuple_mul (F.args_tuple_mul_2 _ _) (tuple_mul0 l its.toArray n dd sl t hi) ⟨ho, ?_⟩⟩)
  refine ⟨.ref s.heap.objs.size, _, I.laid (t' := s.toks) (o := .tup []) (fun b ob q => Heap.get?_push_of_some _ q) (Nat.le_refl _) ?_, rfl, q _ (I.hok.fresh (Nat.le_refl _))⟩
  exact ⟨Nat.zero_le _, _, .nil, IsTup.new _ _⟩
def oMulT (x y : D) (ah : AH) : Res D := match x, y with
  | .tup xs, .int 1 => .ok (.tup xs) ah
  | .tup xs, .int 0 => if xs ≠ [] then .ok (.tup []) ah else .stuck
  | x, y => oMul x y ah
theorem od_mulT : OpD X (RD X.K) (binaryOp .Mult) oMulT := fun Wx => by
  refine OpR.imp (OpR.or (OpR.or (od_mul Wx) op_rep1) op_rep0) fun x y H Q ⟨μ, ah, dx, dy, S, rx, ry, hp⟩ => ?_
  unfold oMulT at hp
  split at hp
  · obtain ⟨a, vs, rfl, q, r⟩ := d_tup rx
    rw [d_int ry]
    exact .inl (.inr ⟨a, vs, rfl, rfl, q, hp.ok1 S (r_tup q r)⟩)
  · split at hp
    · rename_i hn
      obtain ⟨a, vs, rfl, q, r⟩ := d_tup rx
      rw [d_int ry]
      exact .inr ⟨a, vs, rfl, rfl, q, fun e => hn (List.length_eq_zero_iff.mp (by rw [r.length, e]; rfl)), fun p np => hp.newT S Reps.nil np⟩
    · exact hp.elim
  · exact .inl (.inl ⟨μ, ah, _, _, S, rx, ry, hp⟩)
end
end HA
namespace HA
open PySem PySem.Spec PyProof.Rows L2
def putAt (n : Nat) (y : D) (ah : AH) : Option AH := match ah[n]? with
  | some (.lst acc) => if acc.length < line then some (ah.set n (.lst (acc ++ [y]))) else none
  | _ => none
def lcH (n : Nat) (t : Itm) (tm : TM) (test : EM Bool) (elt : EM D) (vs : List Nat) (env : HA.Env) : List D → AH → Option AH
  | [], ah => if t.okIn ah = true then some ah else none
  | d :: ds, ah => if t.okIn ah = true then match tm d (wipeE env vs) ah with
    | some env1 => match test env1 ah with
      | .ok true ah1 => match elt env1 ah1 with
        | .ok y ah2 => match putAt n y ah2 with
          | some ah3 => lcH n t tm test elt vs env ds ah3
          | none => none
        | _ => none
      | .ok false ah1 => lcH n t tm test elt vs env ds ah1
      | _ => none
    | none => none else none
def lcH2 (n : Nat) (t : Itm) (tm : TM) (test : EM Bool) (mi1 : EM Itm) (tm1 : TM) (test1 : EM Bool) (elt : EM D) (vs vs1 : List Nat) (env : HA.Env) : List D → AH → Option AH
  | [], ah => if t.okIn ah = true then some ah else none
  | d :: ds, ah => if t.okIn ah = true then match tm d (wipeE env vs) ah with
    | some env1 => match test env1 ah with
      | .ok true ah1 => match mi1 env1 ah1 with
        | .ok t1 ah2 => match lcH n t1 tm1 test1 elt vs1 env1 t1.items ah2 with
          | some ah3 => lcH2 n t tm test mi1 tm1 test1 elt vs vs1 env ds ah3
          | none => none
        | _ => none
      | .ok false ah1 => lcH2 n t tm test mi1 tm1 test1 elt vs vs1 env ds ah1
      | _ => none
    | none => none else none
def eLc2 (mi : EM Itm) (tm : TM) (test : EM Bool) (mi1 : EM Itm) (tm1 : TM) (test1 : EM Bool) (elt : EM D) (vs vs1 : List Nat) : EM D := fun env ah => (mi env ah).bind fun t ah1 => match lcH2 ah1.length t tm test mi1 tm1 test1 elt vs vs1 env t.items (ah1 ++ [.lst []]) with
  | some ah2 => .ok (.ref ah1.length) ah2
  | none => .stuck
section
variable {X : Cx} {W : WX}
variable {elt tg iter tg1 iter1 : Expr} {ifs ifs1 : List Expr} {scope : Scope} {own : List (Str × Nat)} {vs vs1 : List Nat} {pos : Pos} {mi mi1 : EM Itm} {tm tm1 : TM} {ts ts1 : List Nat} {mt mt1 : EM Bool} {me : EM D}
end
end HA
namespace HZ
open PySem
open PySem.Sem (wp)
abbrev ZipRec (h : Heap) (z TI TO : Addr) (f0 : Value) : Prop := h.get? z = some { cls := .type "zip", dict := none, data := .fields #[f0, .bool false, .bool true, .ref TI, .ref TO], slots := #[] }
section
variable {prog : Program} {w : World} {A : Around} {E : Value → Shared → Prop} {s : Shared} {z TI TO i1 i2 it : Addr} {fp fp1 fp2 : List Addr} {n n1 n2 i : Nat} {P P1 P2 : Nat → Value → Prop} {St St1 St2 : Nat → Heap → Prop} {a1 a2 : Value}
theorem drawE_item {Q : Option Value → Shared → Prop} (D : Draws prog w A it fp n P St) (hi : i < n) (st : St i s.heap)
    (hQ : ∀ x h' tk, P i x → St (i + 1) h' → Heap.SameBut it s.heap h' → Q (some x) { s with heap := h', toks := tk }) : wpAny (model prog w) A (Builtin.SmallTypes.nextOrEnd (.ref it)) Q E s := by
  unfold Builtin.SmallTypes.nextOrEnd
  exact wpAny_bind (wpAny_attempt (D.item i s _ _ hi st fun x h' tk a b c => wpAny_pure (hQ x h' tk a b c)))
theorem drawE_end {Q : Option Value → Shared → Prop} (D : Draws prog w A it fp n P St) (st : St n s.heap)
    (hQ : ∀ h', Heap.ExtBut it s.heap h' → Q none { s with heap := h' }) : wpAny (model prog w) A (Builtin.SmallTypes.nextOrEnd (.ref it)) Q E s := by
  unfold Builtin.SmallTypes.nextOrEnd
  refine wpAny_bind (wpAny_attempt (D.done s _ _ st fun h' e hk he => ?_))
  obtain ⟨o, ho, hc⟩ := he
  exact wpAny_bind (wpAny_isInstance (T := "StopIteration") (b := true) ⟨o, ho, hc⟩ isSubtype_stop (wpAny_pure (hQ h' hk)))
theorem part {Q : Unit → Shared → Prop} {T : Addr} {k : Nat} {x : Value} (hT : IsTupOf2 s.heap T a1 a2)
    (h : ∀ h', h'.get? T = some { cls := .type "tuple", data := .seq ((#[a1, a2] : Array Value).setIfInBounds k x) } → Heap.SameBut T s.heap h' → Q () { s with heap := h' }) :
    wpAny (model prog w) A (updateSeq T (·.setIfInBounds k x)) Q E s := updateSeq_IsTupOf2 hT h
theorem zipS_item {Q : Value → Shared → Prop} (S : ZipSep2 z TI TO i1 i2 fp1 fp2) (D1 : Draws prog w A i1 fp1 n1 P1 St1) (D2 : Draws prog w A i2 fp2 n2 P2 St2)
    (hz : ZipRec s.heap z TI TO .none) (hI : IsTupOf2 s.heap TI (.ref i1) (.ref i2)) (hO : IsTupOf2 s.heap TO a1 a2) (t1 : St1 i s.heap) (t2 : St2 i s.heap) (l1 : i < n1) (l2 : i < n2)
    (hQ : ∀ x1 x2 h' tk, P1 i x1 → P2 i x2 → ZipRec h' z TI TO (rawInt s.heap.objs.size) → IsTupOf2 h' TO x1 x2 → St1 (i + 1) h' → St2 (i + 1) h' → IsTupOf2 h' s.heap.objs.size x1 x2 →
      (∀ c o, c ≠ z → c ≠ TO → c ≠ i1 → c ≠ i2 → s.heap.get? c = some o → h'.get? c = some o) → Q (.ref s.heap.objs.size) { s with heap := h', toks := tk }) :
    wpAny (model prog w) A (Builtin.«zip.__next__» ⟨[.ref z], []⟩) (fun fin s' => ∃ v, fin = .done (.ret v) ∧ Q v s') E s := by
  obtain ⟨h0, gs, dr, tk0, os⟩ := s
  show wpAny _ _ (field (.ref z) 2 >>= _) _ _ _
  refine wpAny_bind (wpAny_field hz rfl (x := .bool true) rfl ?_)
  show wpAny _ _ (field (.ref z) 3 >>= _) _ _ _
  refine wpAny_bind (wpAny_field hz rfl (x := .ref TI) rfl (wpAny_bind (wpAny_seqItems hI rfl ?_)))
  show wpAny _ _ (Builtin.SmallTypes.ownedTupleIsFree (.ref z) >>= _) _ _ _
  refine wpAny_bind ?_
  unfold Builtin.SmallTypes.ownedTupleIsFree
  refine wpAny_bind (wpAny_field hz rfl (x := .none) rfl (wpAny_pure ?_))
  rw [if_pos rfl]
  refine wpAny_bind (wpAny_rule (wpAny_bind (wpAny_field hz rfl (x := .ref TO) rfl ?_)))
  refine wpAny_bind (wpAny_setField_rec hz (by simp) fun u0 z0 s0 => wpAny_bind ?_)
  have z0 : ZipRec u0 z TI TO .ellipsis := z0
  have s0 : Heap.SameBut z h0 u0 := s0
  simp only [List.zipIdx_cons, List.zipIdx_nil, List.forIn_cons, List.forIn_nil]
  refine wpAny_bind (wpAny_bind (wpAny_onRaise ?_))
  show wpAny _ _ (Builtin.SmallTypes.nextOrEnd (.ref i1)) _ _ ⟨u0, gs, dr, tk0, os⟩
  refine drawE_item D1 l1 (D1.over t1 s0 S.zf1) fun x1 u1 k1 y1 q1 s1 => ?_
  have s1 : Heap.SameBut i1 u0 u1 := s1
  have o1 : IsTupOf2 u1 TO a1 a2 := s1.extBut _ _ S.Ti1 (s0.extBut _ _ S.TOz hO)
  refine wpAny_bind (wpAny_seqItems (s := ⟨u1, gs, dr, k1, os⟩) o1 rfl (wpAny_bind (part (s := ⟨u1, gs, dr, k1, os⟩) o1 fun u2 o2 s2 => wpAny_bind (wpAny_letGo (wpAny_pure ?_)))))
  have o2 : IsTupOf2 u2 TO x1 a2 := o2
  have s2 : Heap.SameBut TO u1 u2 := s2
  refine wpAny_bind (wpAny_bind (wpAny_onRaise ?_))
  show wpAny _ _ (Builtin.SmallTypes.nextOrEnd (.ref i2)) _ _ ⟨u2, gs, dr, k1, os⟩
  refine drawE_item D2 l2 (D2.over (D2.over (D2.over t2 s0 S.zf2) s1 S.sep1_2) s2 S.Tf2) fun x2 u3 k2 y2 q2 s3 => ?_
  have s3 : Heap.SameBut i2 u2 u3 := s3
  have o3 : IsTupOf2 u3 TO x1 a2 := s3.extBut _ _ S.Ti2 o2
  refine wpAny_bind (wpAny_seqItems (s := ⟨u3, gs, dr, k2, os⟩) o3 rfl (wpAny_bind (part (s := ⟨u3, gs, dr, k2, os⟩) o3 fun u4 o4 s4 => wpAny_bind (wpAny_letGo (wpAny_pure (wpAny_pure ?_))))))
  have o4 : IsTupOf2 u4 TO x1 x2 := o4
  have s4 : Heap.SameBut TO u3 u4 := s4
  have z4 : ZipRec u4 z TI TO .ellipsis := s4.extBut _ _ S.TOz.symm (s3.extBut _ _ S.zi2 (s2.extBut _ _ S.TOz.symm (s1.extBut _ _ S.zi1 z0)))
  have kp : ∀ c o, c ≠ z → c ≠ TO → c ≠ i1 → c ≠ i2 → h0.get? c = some o → u4.get? c = some o := fun c o cz cT c1 c2 e => s4.extBut _ _ cT (s3.extBut _ _ c2 (s2.extBut _ _ cT (s1.extBut _ _ c1 (s0.extBut _ _ cz e))))
  have q1 : St1 (i + 1) u4 := D1.over (D1.over (D1.over q1 s2 S.Tf1) s3 S.sep2_1) s4 S.Tf1
  have q2 : St2 (i + 1) u4 := D2.over q2 s4 S.Tf2
  have sz : u4.objs.size = h0.objs.size := by rw [s4.1, s3.1, s2.1, s1.1, s0.1]
  have zl : z < u4.objs.size := Heap.lt_size z4
  refine wpAny_bind (wpAny_seqItems (s := ⟨u4, gs, dr, k2, os⟩) o4 rfl (wpAny_bind (wpAny_newTuple ?_)))
  show wpAny _ _ (Builtin.SmallTypes.ownedTupleHandOut (.ref z) (.ref u4.objs.size) >>= _) _ _ ⟨u4.push { cls := .type "tuple", data := .seq #[x1, x2] }, gs, dr, k2, os⟩
  refine wpAny_bind ?_
  unfold Builtin.SmallTypes.ownedTupleHandOut
  have z5 : ZipRec (u4.push { cls := .type "tuple", data := .seq #[x1, x2] }) z TI TO .ellipsis := Heap.get?_push_of_some _ z4
  refine wpAny_bind (wpAny_setField_rec z5 (by simp) fun u6 z6 s6 => ?_)
  have z6 : ZipRec u6 z TI TO (rawInt u4.objs.size) := z6
  refine wpAny_setField_rec z6 (by simp) fun u7 z7 s7 => wpAny_pure ⟨_, rfl, ?_⟩
  have z7 : ZipRec u7 z TI TO (rawInt u4.objs.size) := z7
  have s6 : Heap.SameBut z (u4.push { cls := .type "tuple", data := .seq #[x1, x2] }) u6 := s6
  have s7 : Heap.SameBut z u6 u7 := s7
  have up : ∀ c o, c ≠ z → u4.get? c = some o → u7.get? c = some o := fun c o c1 e => s7.extBut _ _ c1 (s6.extBut _ _ c1 (Heap.get?_push_of_some _ e))
  have nt : IsTupOf2 u7 u4.objs.size x1 x2 := s7.extBut _ _ (Nat.ne_of_gt zl) (s6.extBut _ _ (Nat.ne_of_gt zl) (Heap.get?_push_size _ rfl))
  rw [sz] at z7 nt
  show Q (.ref u4.objs.size) ⟨u7, gs, dr, k2, os⟩
  rw [sz]
  exact hQ x1 x2 u7 k2 y1 y2 z7 (up _ _ S.TOz o4) (D1.frame _ _ _ q1 fun b hb o e => up b o (fun q => S.zf1 (q ▸ hb)) e) (D2.frame _ _ _ q2 fun b hb o e => up b o (fun q => S.zf2 (q ▸ hb)) e) nt fun c o cz cT c1 c2 e => up c o cz (kp c o cz cT c1 c2 e)
theorem zipS_end {Q : Fin → Shared → Prop} (hh : A.handled = none) (S : ZipSep2 z TI TO i1 i2 fp1 fp2) (D1 : Draws prog w A i1 fp1 n P1 St1) (D2 : Draws prog w A i2 fp2 n P2 St2)
    (hz : ZipRec s.heap z TI TO .none) (hI : IsTupOf2 s.heap TI (.ref i1) (.ref i2)) (t1 : St1 n s.heap) (t2 : St2 n s.heap)
    (hE : ∀ h' tk e, (∀ c o, c ≠ z → c ≠ i1 → c ≠ i2 → s.heap.get? c = some o → h'.get? c = some o) → (∃ o, h'.get? e = some o ∧ o.cls = .type "StopIteration") → E (.ref e) { s with heap := h', toks := tk }) :
    wpAny (model prog w) A (Builtin.«zip.__next__» ⟨[.ref z], []⟩) Q E s := by
  obtain ⟨h0, gs, dr, tk0, os⟩ := s
  show wpAny _ _ (field (.ref z) 2 >>= _) _ _ _
  refine wpAny_bind (wpAny_field hz rfl (x := .bool true) rfl ?_)
  show wpAny _ _ (field (.ref z) 3 >>= _) _ _ _
  refine wpAny_bind (wpAny_field hz rfl (x := .ref TI) rfl (wpAny_bind (wpAny_seqItems hI rfl ?_)))
  show wpAny _ _ (Builtin.SmallTypes.ownedTupleIsFree (.ref z) >>= _) _ _ _
  refine wpAny_bind ?_
  unfold Builtin.SmallTypes.ownedTupleIsFree
  refine wpAny_bind (wpAny_field hz rfl (x := .none) rfl (wpAny_pure ?_))
  rw [if_pos rfl]
  refine wpAny_bind (wpAny_rule (wpAny_bind (wpAny_field hz rfl (x := .ref TO) rfl ?_)))
  refine wpAny_bind (wpAny_setField_rec hz (by simp) fun u0 z0 s0 => wpAny_bind ?_)
  have z0 : ZipRec u0 z TI TO .ellipsis := z0
  have s0 : Heap.SameBut z h0 u0 := s0
  simp only [List.zipIdx_cons, List.zipIdx_nil, List.forIn_cons, List.forIn_nil]
  refine wpAny_bind (wpAny_bind (wpAny_onRaise ?_))
  show wpAny _ _ (Builtin.SmallTypes.nextOrEnd (.ref i1)) _ _ ⟨u0, gs, dr, tk0, os⟩
  refine drawE_end D1 (D1.over t1 s0 S.zf1) fun u1 s1 => ?_
  have s1 : Heap.ExtBut i1 u0 u1 := s1
  have z1 : ZipRec u1 z TI TO .ellipsis := s1 _ _ S.zi1 z0
  refine wpAny_bind (wpAny_setField_rec (s := ⟨u1, gs, dr, tk0, os⟩) z1 (by simp) fun u2 z2 s2 => ?_)
  have s2 : Heap.SameBut z u1 u2 := s2
  have z2 : ZipRec u2 z TI TO .none := z2
  have t2' : St2 n u2 := D2.over (D2.frame _ _ _ (D2.over t2 s0 S.zf2) fun b hb o e => s1 b o (fun q => S.sep1_2 (q ▸ hb)) e) s2 S.zf2
  refine wpAny_bind (wpAny_bind (wpAny_bind ?_))
  show wpAny _ _ (Builtin.SmallTypes.nextOrEnd (.ref i2) >>= _) _ _ ⟨u2, gs, dr, tk0, os⟩
  refine wpAny_bind (drawE_end D2 t2' fun u3 s3 => ?_)
  have s3 : Heap.ExtBut i2 u2 u3 := s3
  rw [if_neg (by decide)]
  refine wpAny_pure (wpAny_pure (wpAny_bind (wpAny_rule ?_)))
  unfold Builtin.SmallTypes.stopIteration
  simp only [newExc, newTuple]
  refine wpAny_bind (wpAny_bind (wpAny_newObj_type ?_ (by size_fits)))
  refine wpAny_bind (m := firstArgMember _ _) (wpAny_of_eq (a := Value.none) (by first | rfl | (simp only [firstArgMember]; rfl)) ?_)
  refine wpAny_newObj_type ?_ (by size_fits)
  simp only [raiseNew]
  refine wpAny_bind (wpAny_handled ?_)
  rw [hh]
  refine wpAny_bind (wpAny_pure (wpAny_throw ?_))
  exact hE _ _ _ (fun c o cz c1 c2 e => Heap.get?_push_of_some _ (Heap.get?_push_of_some _ (s3 _ _ c2 (s2.extBut _ _ cz (s1 _ _ c1 (s0.extBut _ _ cz e)))))) ⟨_, Heap.get?_push_size _ rfl, rfl⟩
theorem pyNext_item {Q : Option Value → Shared → Prop} (S : ZipSep2 z TI TO i1 i2 fp1 fp2) (D1 : Draws prog w A.in1 i1 fp1 n1 P1 St1) (D2 : Draws prog w A.in1 i2 fp2 n2 P2 St2)
    (hz : ZipRec s.heap z TI TO .none) (hI : IsTupOf2 s.heap TI (.ref i1) (.ref i2)) (hO : IsTupOf2 s.heap TO a1 a2) (t1 : St1 i s.heap) (t2 : St2 i s.heap) (l1 : i < n1) (l2 : i < n2)
    (hQ : ∀ x1 x2 h' tk, P1 i x1 → P2 i x2 → ZipRec h' z TI TO (rawInt s.heap.objs.size) → IsTupOf2 h' TO x1 x2 → St1 (i + 1) h' → St2 (i + 1) h' → IsTupOf2 h' s.heap.objs.size x1 x2 →
      (∀ c o, c ≠ z → c ≠ TO → c ≠ i1 → c ≠ i2 → s.heap.get? c = some o → h'.get? c = some o) → Q (some (.ref s.heap.objs.size)) { s with heap := h', toks := tk }) :
    wpAny (model prog w) A (pyNext (.ref z)) Q E s := by
  have hT : s.TypeIs (.ref z) "zip" := ⟨_, hz, rfl⟩
  unfold pyNext
  exact wpAny_bind (wpAny_attempt (wpAny_callSpecial?_slot (name := Str.ofString "__next__") hT F.slot_zip_next
    (wpAny_call_entry F.slot_zip_next hT F.entry_zip_next (zipS_item S D1 D2 hz hI hO t1 t2 l1 l2 fun x1 x2 h' tk y1 y2 b1 b2 d1 d2 b5 b6 => wpAny_pure (hQ x1 x2 h' tk y1 y2 b1 b2 d1 d2 b5 b6)) (F.args_zip_next_1 _))))
theorem pyNext_end {Q : Option Value → Shared → Prop} (hh : A.handled = none) (S : ZipSep2 z TI TO i1 i2 fp1 fp2) (D1 : Draws prog w A.in1 i1 fp1 n P1 St1) (D2 : Draws prog w A.in1 i2 fp2 n P2 St2)
    (hz : ZipRec s.heap z TI TO .none) (hI : IsTupOf2 s.heap TI (.ref i1) (.ref i2)) (t1 : St1 n s.heap) (t2 : St2 n s.heap)
    (hQ : ∀ h' tk, (∀ c o, c ≠ z → c ≠ i1 → c ≠ i2 → s.heap.get? c = some o → h'.get? c = some o) → Q none { s with heap := h', toks := tk }) : wpAny (model prog w) A (pyNext (.ref z)) Q E s := by
  have hT : s.TypeIs (.ref z) "zip" := ⟨_, hz, rfl⟩
  unfold pyNext
  refine wpAny_bind (wpAny_attempt (wpAny_callSpecial?_slot (name := Str.ofString "__next__") hT F.slot_zip_next
    (wpAny_call_entry F.slot_zip_next hT F.entry_zip_next (zipS_end hh S D1 D2 hz hI t1 t2 fun h' tk e hk he => ?_) (F.args_zip_next_1 _))))
  obtain ⟨o, ho, hc⟩ := he
  exact wpAny_bind (wpAny_isInstance (T := "StopIteration") (b := true) ⟨o, ho, hc⟩ isSubtype_stop (wpAny_pure (hQ _ _ hk)))
theorem letGo {elts : List Expr} {x1} {pos : Pos} {T : Addr} {Q : Unit → Shared → Prop} (hz : ZipRec s.heap z TI TO (rawInt T))
    (hQ : ∀ h', ZipRec h' z TI TO .none → Heap.SameBut z s.heap h' → Q () { s with heap := h' }) :
    wpAny (model prog w) A (letOwnedTupleGo (.Tuple elts x1 pos) (.ref z) (.ref T)) Q E s := by
  unfold letOwnedTupleGo
  refine wpAny_bind (wpAny_load hz ?_)
  show wpAny _ _ (if (["enumerate", "zip", "dict_itemiterator", "dict_reverseitemiterator", "odict_iterator", "itertools.zip_longest", "itertools.pairwise"].contains "zip" &&
      (#[rawInt T, .bool false, .bool true, .ref TI, .ref TO] : Array Value)[0]? == some (rawInt T)) = true then _ else _) Q E s
  rw [if_pos (by simp)]
  refine wpAny_bind (wpAny_rule ?_)
  show wpAny _ _ (setField (.ref z) 0 .none) Q E s
  exact wpAny_setField_rec hz (by simp) fun h' hz' hs' => hQ h' hz' hs'
theorem pyIter_zip {f0 : Value} {Q : Value → Shared → Prop} (hz : ZipRec s.heap z TI TO f0) (h : Q (.ref z) s) : wpAny (model prog w) A (pyIter (.ref z)) Q E s := by
  have hT : s.TypeIs (.ref z) "zip" := ⟨_, hz, rfl⟩
  refine wpAny_pyIter_slot hT F.slot_zip_iter (wpAny_call_entry F.slot_zip_iter hT F.entry_zip_iter ?_ (F.args_zip_iter_1 _))
  show wpAny _ _ (ret (.ref z)) _ _ s
  exact wpAny_pure ⟨_, rfl, "zip", _, hT, F.slot_zip_next.lookup, h⟩
end
abbrev kwS : List (Str × Value) := [("strict", .bool true)]
theorem type_ok (a b : Value) : checkTypeCall "zip" ⟨[a, b], kwS⟩ = pure () := by kernel_rfl
theorem new_ok (a b : Value) : checkBuiltinCall "zip.__new__" ⟨[.type "zip", a, b], kwS⟩ = pure () := by kernel_rfl
theorem init_ok (o a b : Value) : argsOk "object.__init__" ⟨[o, a, b], kwS⟩ := by unfold argsOk; kernel_rfl
abbrev made (h : Heap) (o1 o2 : Obj) : Heap := (gzO2 h o1 o2).push { cls := .type "zip", data := .fields #[.none, .bool false, .bool true, .ref ((h.push o1).push o2).objs.size, .ref (gzT2 h o1 o2).objs.size] }
theorem new_meets {v1 v2 : Value} {o1 o2 : Obj} {H1 H2 : Heap → Prop} (B1 : Begins v1 o1 H1) (B2 : Begins v2 o2 H2) :
    Meets (Builtin.«zip.__new__» ⟨[.type "zip", v1, v2], kwS⟩) (fun _ R s => (H1 s.heap ∧ H2 s.heap) ∧ R (.ok (.ret (.ref (gzO2 s.heap o1 o2).objs.size))) { s with heap := made s.heap o1 o2 }) :=
  .of_wp fun prog w A R s h => by
    obtain ⟨hp, g, d, tk, os⟩ := s
    obtain ⟨⟨h1, h2⟩, h⟩ := h
    have hsub := sub_zip
    have q1 : ∀ {A' : Around} {E : Value → Shared → Prop} {Q : Value → Shared → Prop}, Q (.ref hp.objs.size) ⟨hp.push o1, g, d, tk, os⟩ → wpAny (model prog w) A' (pyIter v1) Q E ⟨hp, g, d, tk, os⟩ :=
      fun q => B1.iter prog w _ _ ⟨hp, g, d, tk, os⟩ _ (B1.keeps _ _ h1 fun b o' e => e) q
    have q2 : ∀ {A' : Around} {E : Value → Shared → Prop} {Q : Value → Shared → Prop}, Q (.ref (hp.push o1).objs.size) ⟨(hp.push o1).push o2, g, d, tk, os⟩ → wpAny (model prog w) A' (pyIter v2) Q E ⟨hp.push o1, g, d, tk, os⟩ :=
      fun q => B2.iter prog w _ _ ⟨hp.push o1, g, d, tk, os⟩ _ (B2.keeps _ _ h2 fun b o' e => Heap.get?_push_of_some _ e) q
    wp_walk using q1, q2
    exact ⟨_, rfl, h⟩
section
variable {prog : Program} {w : World} {A : Around} {E : Value → Shared → Prop} {s : Shared}
theorem call_zipS {v1 v2 : Value} {o1 o2 : Obj} {H1 H2 : Heap → Prop} {Q : Value → Shared → Prop} (B1 : Begins v1 o1 H1) (B2 : Begins v2 o2 H2) (h1 : H1 s.heap) (h2 : H2 s.heap)
    (h : ∀ h', ZipRec h' (s.heap.objs.size + 4) (s.heap.objs.size + 2) (s.heap.objs.size + 3) .none → IsTupOf2 h' (s.heap.objs.size + 2) (.ref s.heap.objs.size) (.ref (s.heap.objs.size + 1)) →
      IsTupOf2 h' (s.heap.objs.size + 3) .none .none → h'.get? s.heap.objs.size = some o1 → h'.get? (s.heap.objs.size + 1) = some o2 →
      (∀ c o, s.heap.get? c = some o → h'.get? c = some o) → Q (.ref (s.heap.objs.size + 4)) { s with heap := h' }) :
    wpAny (model prog w) A (call (.type "zip") [v1, v2] kwS) Q E s := by
  refine callType_newKw F.called_zip (by decide) (type_ok _ _) (new_ok _ _) (fun obj => init_ok obj _ _) F.entry_zip_new (new_meets B1 B2) ⟨⟨h1, h2⟩, ?_⟩
  have e1 : (s.heap.push o1).objs.size = s.heap.objs.size + 1 := Heap.size_push ..
  have e2 : ((s.heap.push o1).push o2).objs.size = s.heap.objs.size + 2 := by rw [Heap.size_push, e1]
  have e3 : (gzT2 s.heap o1 o2).objs.size = s.heap.objs.size + 3 := by rw [Heap.size_push, e2]
  have e4 : (gzO2 s.heap o1 o2).objs.size = s.heap.objs.size + 4 := by rw [Heap.size_push, e3]
  have g5 : (made s.heap o1 o2).get? (gzO2 s.heap o1 o2).objs.size = some _ := Heap.get?_push_size _ rfl
  have g4 : (made s.heap o1 o2).get? (gzT2 s.heap o1 o2).objs.size = some _ := Heap.get?_push_of_some _ (Heap.get?_push_size _ rfl)
  have g3 : (made s.heap o1 o2).get? ((s.heap.push o1).push o2).objs.size = some _ := Heap.get?_push_of_some _ (Heap.get?_push_of_some _ (Heap.get?_push_size _ rfl))
  have g2 : (made s.heap o1 o2).get? (s.heap.push o1).objs.size = some o2 := Heap.get?_push_of_some _ (Heap.get?_push_of_some _ (Heap.get?_push_of_some _ (Heap.get?_push_size _ B2.free)))
  have g1 : (made s.heap o1 o2).get? s.heap.objs.size = some o1 := Heap.get?_push_of_some _ (Heap.get?_push_of_some _ (Heap.get?_push_of_some _ (Heap.get?_push_of_some _ (Heap.get?_push_size _ B1.free))))
  rw [e4, e3, e2] at g5
  rw [e3] at g4
  rw [e2, e1] at g3
  rw [e1] at g2
  show _ ∧ _
  rw [e4]
  exact ⟨⟨_, g5, rfl⟩, h _ g5 g3 g4 g1 g2 fun c o e => Heap.get?_push_of_some _ (Heap.get?_push_of_some _ (Heap.get?_push_of_some _ (Heap.get?_push_of_some _ (Heap.get?_push_of_some _ e))))⟩
theorem callWith_typeKw {env : Env} {pos : Pos} {T : String} {e : Expr} {rest : List Expr} {kws : List Keyword} {Q : Value → Shared → Prop}
    (h : wpAny (model prog w) A (spliced (backTo pos (starEach (e :: rest) env))) (fun vs s₁ => wpAny (model prog w) A (evalAll ((backToKw pos (keywordEach kws env)).map (·.2)))
      (fun kvs s₂ => wpAny (model prog w) A (call (.type T) vs (((backToKw pos (keywordEach kws env)).filterMap (·.1)).zip kvs)) Q E s₂) E s₁) E s)
    (he : backTo pos (starEach (e :: rest) env) = (false, eval e env) :: backTo pos (starEach rest env) := by rfl)
    (hplain : (backTo pos (starEach (e :: rest) env)).any (·.1) = false := by rfl)
    (hall : (backToKw pos (keywordEach kws env)).all (·.1.isSome) = true := by rfl)
    (hkw : (backToKw pos (keywordEach kws env)).any (·.1.isNone) = false := by rfl) :
    wpAny (model prog w) A (callWith pos (.type T) [] (backTo pos (starEach (e :: rest) env)) (backToKw pos (keywordEach kws env))) Q E s := by
  unfold callWith
  refine wpAny_bind (wpAny_holding (wpAny_mono (?_ : wpAny _ _ _ (fun a s₁ => wpAny (model prog w) A (call (.type T) ([] ++ a.pos) a.kw) Q E s₁) _ _) (fun a s₁ h₁ => wpAny_bind (wpAny_standAt ?_)) fun _ _ x => x))
  · rw [he] at h ⊢
    exact PyProof.Rows.evalArgs_kwB hall h
  · simp only [hplain, hkw, Bool.or_false]
    refine wpAny_bind (wpAny_pure ?_)
    exact wpAny_bind (wpAny_mono h₁ (fun r s₂ hr => wpAny_bind (wpAny_holding (wpAny_point (wpAny_pure hr)))) fun _ _ x => x)
end
end HZ
namespace HZ
open PySem PySem.Spec PyProof.Rows L2
abbrev zrec (st : Bool) (h : Heap) (z TI TO : Addr) (f0 : Value) : Prop := h.get? z = some { cls := .type "zip", dict := none, data := .fields #[f0, .bool false, .bool st, .ref TI, .ref TO], slots := #[] }
def PIter (k : Bool) (h : Heap) (it l : Addr) (i : Nat) : Prop := if k = true then h.IsTupleIter it l i else h.IsListIter it l i
def PSeq (k : Bool) (h : Heap) (l : Addr) (xs : Array Value) : Prop := if k = true then h.IsTuple l xs else h.IsList l xs
def pobj (k : Bool) (l : Addr) : Obj := { cls := .type (if k = true then "tuple_iterator" else "list_iterator"), data := .fields #[.ref l, .int 0 0] }
theorem PIter.at {k : Bool} {h h' : Heap} {it l : Addr} {i : Nat} (st : PIter k h it l i) (e : ∀ o, h.get? it = some o → h'.get? it = some o) : PIter k h' it l i := by
  cases k
  · exact Heap.IsListIter.at st e
  · exact Heap.IsTupleIter.at st e
theorem PIter.live {k : Bool} {h : Heap} {it l : Addr} {i : Nat} (st : PIter k h it l i) : ∃ o, h.get? it = some o ∧ ∀ v, o.data ≠ .cell v := by
  cases k
  · obtain ⟨o, e, _, d⟩ := st; exact ⟨o, e, fun v q => by rw [d] at q; cases q⟩
  · obtain ⟨o, e, _, d⟩ := st; exact ⟨o, e, fun v q => by rw [d] at q; cases q⟩
theorem drawsP {k : Bool} {prog : Program} {w : World} {A : Around} (hh : A.handled = none) (it l : Addr) (hne : l ≠ it) (items : Array Value) :
    Draws prog w A it [it, l] items.size (fun i v => items[i]? = some v) (fun i h => PIter k h it l i ∧ PSeq k h l items) := by
  cases k
  · exact Draws.list hh it l hne items
  · exact Draws.tuple hh it l hne items
theorem beginsP (k : Bool) (l : Addr) (items : Array Value) : Begins (.ref l) (pobj k l) fun h => PSeq k h l items := by
  cases k
  · exact begins_list l items
  · exact begins_tuple l items
section
variable {prog : Program} {w : World} {A : Around} {E : Value → Shared → Prop} {s : Shared} {z TI TO i1 i2 it : Addr} {fp fp1 fp2 : List Addr} {n n1 n2 i : Nat} {P P1 P2 : Nat → Value → Prop} {St St1 St2 : Nat → Heap → Prop} {a1 a2 : Value} {st : Bool}
theorem nextB_item {Q : Option Value → Shared → Prop} (S : ZipSep2 z TI TO i1 i2 fp1 fp2) (D1 : Draws prog w A.in1 i1 fp1 n1 P1 St1) (D2 : Draws prog w A.in1 i2 fp2 n2 P2 St2)
    (hz : zrec st s.heap z TI TO .none) (hI : IsTupOf2 s.heap TI (.ref i1) (.ref i2)) (hO : IsTupOf2 s.heap TO a1 a2) (t1 : St1 i s.heap) (t2 : St2 i s.heap) (l1 : i < n1) (l2 : i < n2)
    (hQ : ∀ x1 x2 h' tk, P1 i x1 → P2 i x2 → zrec st h' z TI TO (rawInt s.heap.objs.size) → IsTupOf2 h' TO x1 x2 → St1 (i + 1) h' → St2 (i + 1) h' → IsTupOf2 h' s.heap.objs.size x1 x2 →
      (∀ c o, c ≠ z → c ≠ TO → c ≠ i1 → c ≠ i2 → s.heap.get? c = some o → h'.get? c = some o) → Q (some (.ref s.heap.objs.size)) { s with heap := h', toks := tk }) :
    wpAny (model prog w) A (pyNext (.ref z)) Q E s := by
  cases st
  · exact wpAny_pyNext_zipD2_item S D1 D2 hz hI hO t1 t2 l1 l2 fun x1 x2 h' tk a b c d e f g _ k => hQ x1 x2 h' tk a b c d e f g k
  · exact pyNext_item S D1 D2 hz hI hO t1 t2 l1 l2 hQ
theorem nextB_end {Q : Option Value → Shared → Prop} (hh : A.handled = none) (S : ZipSep2 z TI TO i1 i2 fp1 fp2) (D1 : Draws prog w A.in1 i1 fp1 n1 P1 St1) (D2 : Draws prog w A.in1 i2 fp2 n2 P2 St2)
    (hz : zrec st s.heap z TI TO .none) (hI : IsTupOf2 s.heap TI (.ref i1) (.ref i2)) (hO : IsTupOf2 s.heap TO a1 a2) (t1 : St1 i s.heap) (t2 : St2 i s.heap) (l1 : i ≤ n1) (l2 : i ≤ n2) (he : i = n1 ∨ i = n2) (hs : st = true → i = n1 ∧ i = n2)
    (hQ : ∀ h' tk, (∀ c o, c ≠ z → c ≠ TO → c ≠ i1 → c ≠ i2 → s.heap.get? c = some o → h'.get? c = some o) → Q none { s with heap := h', toks := tk }) : wpAny (model prog w) A (pyNext (.ref z)) Q E s := by
  cases st
  · exact wpAny_pyNext_zipD2_end S D1 D2 hz hI hO t1 t2 l1 l2 he hQ
  · obtain ⟨rfl, rfl⟩ := hs rfl
    exact pyNext_end hh S D1 D2 hz hI t1 t2 fun h' tk k => hQ h' tk fun c o c1 _ c3 c4 e => k c o c1 c3 c4 e
theorem letGoB {elts : List Expr} {x1} {pos : Pos} {T : Addr} {Q : Unit → Shared → Prop} (hz : zrec st s.heap z TI TO (rawInt T))
    (hQ : ∀ h', zrec st h' z TI TO .none → Heap.SameBut z s.heap h' → Q () { s with heap := h' }) :
    wpAny (model prog w) A (letOwnedTupleGo (.Tuple elts x1 pos) (.ref z) (.ref T)) Q E s := by
  cases st
  · exact wpAny_letOwnedTupleGo_zip hz hQ
  · exact letGo hz hQ
theorem pyIterB {f0 : Value} {Q : Value → Shared → Prop} (hz : zrec st s.heap z TI TO f0) (h : Q (.ref z) s) : wpAny (model prog w) A (pyIter (.ref z)) Q E s := by
  cases st
  · exact wpAny_pyIter_zip hz h
  · exact pyIter_zip hz h
end
theorem sep_new {I a b : Nat} (ha : a < I) (hb : b < I) : ZipSep2 (I + 4) (I + 2) (I + 3) I (I + 1) [I, a] [I + 1, b] := by
  have nm : ∀ {x y c : Nat}, x ≠ y → x ≠ c → x ∉ [y, c] := fun h1 h2 h => by
    rcases List.mem_cons.mp h with e | e
    · exact h1 e
    · exact h2 (List.mem_singleton.mp e)
  have a1 : (I + 2 : Nat) ≠ I + 4 := by omega
  have a2 : (I + 3 : Nat) ≠ I + 4 := by omega
  have a3 : (I + 2 : Nat) ≠ I + 3 := by omega
  have a4 : (I + 2 : Nat) ≠ I := by omega
  have a5 : (I + 2 : Nat) ≠ I + 1 := by omega
  exact ⟨a1, a2, a3, a4, List.mem_cons_self, nm (by omega) (by omega), nm (by omega) (by omega), a5, List.mem_cons_self, nm (by omega) (by omega), nm (by omega) (by omega), nm (by omega) (by omega), nm (by omega) (by omega)⟩
def PtAt (K : PySem.W.Frag) (H : Hp) (p : Bool × Addr) (xs : List V) : Prop := if p.1 = true then SqT K H p.2 xs else SqL K H p.2 xs
section
variable {X : Cx} {pins : List (Addr × Obj)} {σ : L2.St} {H : Hp} {s : Shared} {p : Bool × Addr} {xs ys : List V}
theorem ptAt (I : Inv X pins σ H s) (h : PtAt X.K H p xs) : ∃ its : List Value, Vals xs its ∧ PSeq p.1 s.heap p.2 its.toArray := by
  obtain ⟨k, a⟩ := p
  cases k
  · obtain ⟨its, r, q, _⟩ := I.list h
    exact ⟨its, r, q.isList⟩
  · obtain ⟨its, r, q, _⟩ := I.tuple h
    exact ⟨its, r, q⟩
theorem pt_inj (I : Inv X pins σ H s) (h : PtAt X.K H p xs) (h' : PtAt X.K H p ys) : xs = ys := by
  obtain ⟨k, a⟩ := p
  cases k
  · exact I.list_inj h h'
  · exact I.tuple_inj h h'
theorem PSeq.lt {k : Bool} {h : Heap} {l : Addr} {its : Array Value} (q : PSeq k h l its) : l < h.objs.size := by
  cases k
  · obtain ⟨o, e, _⟩ := q; exact Heap.lt_size e
  · obtain ⟨o, e, _⟩ := q; exact Heap.lt_size e
end
def Itq (K : PySem.W.Frag) (st : Bool) (N : Nat) (p q : Bool × Addr) : It :=
  ⟨fun i H => i < N ∧ ∃ (xs ys : List V) (x y : V), PtAt K H p xs ∧ PtAt K H q ys ∧ xs[i]? = some x ∧ ys[i]? = some y,
    fun i H v H' => ∃ T x y, v = .ref T ∧ H T = none ∧ H' = upd H T (.tup [x, y]) ∧ (∀ xs, PtAt K H p xs → xs[i]? = some x) ∧ ∀ ys, PtAt K H q ys → ys[i]? = some y,
    fun i H => N ≤ i ∧ ∃ xs ys : List V, PtAt K H p xs ∧ PtAt K H q ys ∧ N ≤ xs.length ∧ N ≤ ys.length ∧ (N = xs.length ∨ N = ys.length) ∧ (st = true → N = xs.length ∧ N = ys.length)⟩
theorem turn_q {P : Program} {w : World} {K : PySem.W.Frag} {elts : List Expr} {kk : Nat} {tpos : Pos} {p q : Bool × Addr} {st : Bool} {N : Nat} {z TI TO i1 i2 : Addr} (D : ZipSep2 z TI TO i1 i2 [i1, p.2] [i2, q.2]) (na : p.2 ≠ i1) (nb : q.2 ≠ i2) :
    Turn P w K (.Tuple elts kk tpos) (Itq K st N p q) [z, TI, TO, i1, i2] z (fun i h => i ≤ N ∧ zrec st h z TI TO .none ∧ IsTupOf2 h TI (.ref i1) (.ref i2) ∧ (∃ x y, IsTupOf2 h TO x y) ∧ PIter p.1 h i1 p.2 i ∧ PIter q.1 h i2 q.2 i) where
  mem := by simp
  obj := fun i h st c hc => by
    obtain ⟨_, hz, hTI, ⟨x, y, hTO⟩, h1, h2⟩ := st
    obtain ⟨o1, e1, d1⟩ := h1.live
    obtain ⟨o2, e2, d2⟩ := h2.live
    have e' : c = z ∨ c = TI ∨ c = TO ∨ c = i1 ∨ c = i2 := by simpa using hc
    rcases e' with q | q | q | q | q
    · rw [q]; exact ⟨_, hz, fun v q => nomatch q⟩
    · rw [q]; exact ⟨_, hTI, fun v q => nomatch q⟩
    · rw [q]; exact ⟨_, hTO, fun v q => nomatch q⟩
    · rw [q]; exact ⟨o1, e1, d1⟩
    · rw [q]; exact ⟨o2, e2, d2⟩
  keep := fun i h h' st k => by
    obtain ⟨hn, hz, hTI, ⟨x, y, hTO⟩, h1, h2⟩ := st
    exact ⟨hn, k z (by simp) _ hz, k TI (by simp) _ hTI, ⟨x, y, k TO (by simp) _ hTO⟩, h1.at fun o q => k i1 (by simp) o q, h2.at fun o q => k i2 (by simp) o q⟩
  item := by
    intro X hP hw hK hc i pins s σ H E I hf st hg
    subst hP hw hK
    obtain ⟨_, hz, hTI, ⟨x0, y0, hTO⟩, h1, h2⟩ := st
    obtain ⟨hlt, xs, ys, x, y, hqx, hqy, hx, hy⟩ := hg
    obtain ⟨its, rv, p1⟩ := ptAt I hqx
    obtain ⟨its2, rv2, p2⟩ := ptAt I hqy
    obtain ⟨u, hu, ru⟩ := rv.get hx
    obtain ⟨u2, hu2, ru2⟩ := rv2.get hy
    have hzl : z < s.heap.objs.size := Heap.lt_size hz
    have hh : X.A.in1.handled = none := I.ok.hd hc
    refine nextB_item D (drawsP hh i1 p.2 na its.toArray) (drawsP hh i2 q.2 nb its2.toArray) hz hTI hTO ⟨h1, p1⟩ ⟨h2, p2⟩ (by simpa using (List.getElem?_eq_some_iff.mp hu).1) (by simpa using (List.getElem?_eq_some_iff.mp hu2).1) fun v v2 h' tk ev ev2 z' TO' t1 t2 hT hk => ?_
    obtain rfl : v = u := by
      have : its[i]? = some v := by simpa using ev
      rw [hu] at this; cases this; rfl
    obtain rfl : v2 = u2 := by
      have : its2[i]? = some v2 := by simpa using ev2
      rw [hu2] at this; cases this; rfl
    refine ⟨_, rfl, letGoB (s := { s with heap := h', toks := tk }) z' fun h'' z'' sb => ?_⟩
    have sb : Heap.SameBut z h' h'' := sb
    have hT2 : h''.get? s.heap.objs.size = some { cls := .type "tuple", data := .seq #[v, v2] } := (sb.2 _ (Nat.ne_of_gt hzl)).trans hT
    have new : ObjOk X.prog X.w (upd H s.heap.objs.size (.tup [x, y])) h'' s.heap.objs.size (.tup [x, y]) :=
      ⟨by show 2 ≤ sizeLine; decide, [v, v2], .cons ru (.cons ru2 .nil), ⟨_, hT2, rfl, _, rfl⟩⟩
    have I1 : Inv X pins σ (upd H s.heap.objs.size (.tup [x, y])) { s with heap := h'', toks := tk } :=
      I.turnedNew (t' := tk) (ch := [z, TI, TO, i1, i2]) (fun c o hb q => (sb.2 c (fun q' => hb (by simp [q']))).trans (hk c o (fun q' => hb (by simp [q'])) (fun q' => hb (by simp [q'])) (fun q' => hb (by simp [q'])) (fun q' => hb (by simp [q'])) q)) hf (Nat.le_refl _) new
    refine ⟨.ref s.heap.objs.size, _, I1, rfl, ⟨_, x, y, rfl, I.hok.fresh (Nat.le_refl _), rfl, fun l hl => by rw [pt_inj I hl hqx]; exact hx, fun l hl => by rw [pt_inj I hl hqy]; exact hy⟩, ⟨hlt, z'', ?_, ⟨v, v2, ?_⟩, ?_, ?_⟩, fun c hcm => ?_⟩
    · exact (sb.2 _ D.TIz).trans (hk _ _ D.TIz D.TITO D.TIi1 D.TIi2 hTI)
    · exact (sb.2 _ D.TOz).trans TO'
    · exact t1.1.at fun o q => (sb.2 _ (fun e => D.zi1 e.symm)).trans q
    · exact t2.1.at fun o q => (sb.2 _ (fun e => D.zi2 e.symm)).trans q
    · have hlt : c < s.heap.objs.size := by
        have e' : c = z ∨ c = TI ∨ c = TO ∨ c = i1 ∨ c = i2 := by simpa using hcm
        rcases e' with q | q | q | q | q
        · rw [q]; exact hzl
        · rw [q]; exact Heap.lt_size hTI
        · rw [q]; exact Heap.lt_size hTO
        · rw [q]; obtain ⟨_, e1, _⟩ := h1.live; exact Heap.lt_size e1
        · rw [q]; obtain ⟨_, e2, _⟩ := h2.live; exact Heap.lt_size e2
      rw [upd_ne (Nat.ne_of_lt hlt)]
      exact (hf c hcm).1
  done := by
    intro X hP hw hK hc i pins s σ H E I hf st hg
    subst hP hw hK
    obtain ⟨hn, hz, hTI, ⟨x0, y0, hTO⟩, h1, h2⟩ := st
    obtain ⟨hN, xs, ys, hqx, hqy, k1, k2, k3, k4⟩ := hg
    obtain ⟨its, rv, p1⟩ := ptAt I hqx
    obtain ⟨its2, rv2, p2⟩ := ptAt I hqy
    have l1 := rv.length
    have l2 := rv2.length
    obtain rfl : i = N := Nat.le_antisymm hn hN
    have hh : X.A.in1.handled = none := I.ok.hd hc
    refine nextB_end (I.ok.hd hc) D (drawsP hh i1 p.2 na its.toArray) (drawsP hh i2 q.2 nb its2.toArray) hz hTI hTO ⟨h1, p1⟩ ⟨h2, p2⟩ (by simp; omega) (by simp; omega) (by simp; omega) (fun e => by have := k4 e; simp; omega) fun h' tk hk => ⟨rfl, I.turnedL (t' := tk) (ch := [z, TI, TO, i1, i2]) (fun c o hb q =>
      hk c o (fun q' => hb (by simp [q'])) (fun q' => hb (by simp [q'])) (fun q' => hb (by simp [q'])) (fun q' => hb (by simp [q'])) q) hf⟩
  self := fun A i s Q E st h => pyIterB st.2.1 h
theorem pie_q {X : Cx} {elts : List Expr} {kk : Nat} {tpos : Pos} {pins : List (Addr × Obj)} {σ : L2.St} {H1 : Hp} {s1 : Shared} {R : It → Hp → Prop} {p q : Bool × Addr} {st : Bool} {N : Nat} {its its2 : Array Value} (I1 : Inv X pins σ H1 s1) (p1 : PSeq p.1 s1.heap p.2 its) (p2 : PSeq q.1 s1.heap q.2 its2)
    {h' : Heap} (hz : zrec st h' (s1.heap.objs.size + 4) (s1.heap.objs.size + 2) (s1.heap.objs.size + 3) .none) (hI : IsTupOf2 h' (s1.heap.objs.size + 2) (.ref s1.heap.objs.size) (.ref (s1.heap.objs.size + 1)))
    (hO : IsTupOf2 h' (s1.heap.objs.size + 3) .none .none) (h1 : h'.get? s1.heap.objs.size = some (pobj p.1 p.2)) (h2 : h'.get? (s1.heap.objs.size + 1) = some (pobj q.1 q.2)) (hk : ∀ c o, s1.heap.get? c = some o → h'.get? c = some o) (hR : R (Itq X.K st N p q) H1) :
    PIE X pins σ (.Tuple elts kk tpos) R (.ref (s1.heap.objs.size + 4)) { s1 with heap := h' } := by
  have I2 : Inv X pins σ H1 { s1 with heap := h' } := I1.kept (t' := s1.toks) hk
  have i1 : PIter p.1 h' s1.heap.objs.size p.2 0 := by
    revert h1
    cases p.1
    · exact fun h1 => ⟨_, h1, rfl, rfl⟩
    · exact fun h1 => ⟨_, h1, rfl, rfl⟩
  have i2 : PIter q.1 h' (s1.heap.objs.size + 1) q.2 0 := by
    revert h2
    cases q.1
    · exact fun h2 => ⟨_, h2, rfl, rfl⟩
    · exact fun h2 => ⟨_, h2, rfl, rfl⟩
  have la := p1.lt
  have lb := p2.lt
  have na : p.2 ≠ s1.heap.objs.size := Nat.ne_of_lt la
  have nb : q.2 ≠ s1.heap.objs.size + 1 := Nat.ne_of_lt (Nat.lt_succ_of_lt lb)
  refine ⟨s1.heap.objs.size + 4, [s1.heap.objs.size + 4, s1.heap.objs.size + 2, s1.heap.objs.size + 3, s1.heap.objs.size, s1.heap.objs.size + 1], _, _, H1, rfl, I2, turn_q (sep_new la lb) na nb, ⟨Nat.zero_le _, hz, hI, ⟨_, _, hO⟩, i1, i2⟩, fun c hcm => ?_, hR⟩
  have e' : c = s1.heap.objs.size + 4 ∨ c = s1.heap.objs.size + 2 ∨ c = s1.heap.objs.size + 3 ∨ c = s1.heap.objs.size ∨ c = s1.heap.objs.size + 1 := by simpa using hcm
  have hle : s1.heap.objs.size ≤ c := by
    rcases e' with z | z | z | z | z
    · rw [z]; exact Nat.le_add_right _ _
    · rw [z]; exact Nat.le_add_right _ _
    · rw [z]; exact Nat.le_add_right _ _
    · rw [z]; exact Nat.le_refl _
    · rw [z]; exact Nat.le_add_right _ _
  exact I1.fpOk hle (I1.hok.fresh hle)
def ZipOk (K : PySem.W.Frag) (st : Bool) (vs : List V) (H1 : Hp) (R : It → Hp → Prop) : Prop := ∃ (p q : Bool × Addr) (N : Nat) (xs ys : List V), vs = [.ref p.2, .ref q.2] ∧ PtAt K H1 p xs ∧ PtAt K H1 q ys ∧ R (Itq K st N p q) H1
theorem pi_zipN {X : Cx} {e e2 : Expr} {ta : TA} {p pos tpos : Pos} {elts : List Expr} {kk : Nat} (hg : Gl X "zip") (hm : X.mg "zip" = none) (ha : PA X [e, e2] ta)
    (hs : starEach [e, e2] X.env = (false, eval e X.env) :: starEach [e2] X.env := by rfl) (hpl : (backTo pos (starEach [e2] X.env)).any (·.1) = false := by rfl) :
    PI X (.Tuple elts kk tpos) (.Call (.Name "zip" p) [e, e2] [] pos) (fun σ H R => ta σ H fun vs H1 => ZipOk X.K false vs H1 R) := by
  refine ⟨fun pins s σ H R I h => ?_⟩
  refine Call_ (ld_blt I hg hm PyProof.Rows.boot_zip (PyProof.Rows.callWith_type1 (thn (ha.run pos pins s σ H _ I h) fun us s1 ⟨vs, H1, I1, r1, q1⟩ => ?_) hs hpl))
  obtain ⟨a, b, N, xs, ys, ex, hqx, hqy, q⟩ := q1
  subst ex
  obtain ⟨u, v, rfl, r, r'⟩ := vals2 r1
  obtain rfl : u = Value.ref a.2 := r
  obtain rfl : v = Value.ref b.2 := r'
  obtain ⟨its, _, p1⟩ := ptAt I1 hqx
  obtain ⟨its2, _, p2⟩ := ptAt I1 hqy
  exact zip_begins2 (beginsP a.1 a.2 _) (beginsP b.1 b.2 _) p1 p2 fun h' hz hI hO h1 h2 _ hk => wpAny_pyIter_zip hz (pie_q (st := false) I1 p1 p2 hz hI hO h1 h2 hk q)
theorem pi_zipS {X : Cx} {e e2 : Expr} {ta tk : TA} {p pos tpos : Pos} {elts : List Expr} {kk : Nat} {kws : List Keyword} (hg : Gl X "zip") (hm : X.mg "zip" = none) (ha : PA X [e, e2] ta) (hk : PK X kws tk)
    (he : backTo pos (starEach [e, e2] X.env) = (false, eval e X.env) :: backTo pos (starEach [e2] X.env) := by rfl) (hpl : (backTo pos (starEach [e, e2] X.env)).any (·.1) = false := by rfl)
    (hall : (backToKw pos (keywordEach kws X.env)).all (·.1.isSome) = true := by rfl) (hnone : (backToKw pos (keywordEach kws X.env)).any (·.1.isNone) = false := by rfl) (hks : (backToKw pos (keywordEach kws X.env)).filterMap (·.1) = (["strict"] : List Str) := by rfl) :
    PI X (.Tuple elts kk tpos) (.Call (.Name "zip" p) [e, e2] kws pos) (fun σ H R => ta σ H fun vs H1 => tk σ H1 fun zs H2 => zs = [.bl true] ∧ ZipOk X.K true vs H2 R) := by
  refine ⟨fun pins s σ H R I h => ?_⟩
  refine wpAny_Call_Name_kw (ld_blt I hg hm PyProof.Rows.boot_zip (callWith_typeKw (thn (ha.run pos pins s σ H _ I h) fun us s1 ⟨vs, H1, I1, r1, q1⟩ => thn (hk.run pos pins s1 σ H1 _ I1 q1) fun ws s2 ⟨zs, H2, I2, r2, q2⟩ => ?_) he hpl hall hnone))
  rw [hks]
  obtain ⟨ez, a, b, N, xs, ys, ex, hqx, hqy, q⟩ := q2
  subst ex
  subst ez
  obtain ⟨u, v, rfl, r, r'⟩ := vals2 r1
  obtain rfl : u = Value.ref a.2 := r
  obtain rfl : v = Value.ref b.2 := r'
  obtain ⟨w, rfl, rw'⟩ := vals1 r2
  obtain rfl : w = Value.bool true := rw'
  obtain ⟨its, _, p1⟩ := ptAt I2 hqx
  obtain ⟨its2, _, p2⟩ := ptAt I2 hqy
  exact call_zipS (beginsP a.1 a.2 _) (beginsP b.1 b.2 _) p1 p2 fun h' hz hI hO h1 h2 hk => pyIter_zip hz (pie_q (st := true) I2 p1 p2 hz hI hO h1 h2 hk q)
end HZ
namespace HA
open PySem PySem.Spec PyProof.Rows L2
def partOf (d : D) (ah : AH) : Option (List D × List (Nat × List D)) := match d with
  | .tup ds => some (ds, [])
  | .ref n => (listAt ah n).map fun ds => (ds, [(n, ds)])
  | _ => none
def pairsD (xs ys : List D) : List D := (xs.zip ys).map fun p => .tup [p.1, p.2]
def iZipD (st : Bool) (d e : D) (ah : AH) : Res Itm := match partOf d ah, partOf e ah with
  | some (xs, g), some (ys, g') => if st = true ∧ xs.length ≠ ys.length then .stuck else .ok ⟨pairsD xs ys, g ++ g'⟩ ah
  | _, _ => .stuck
theorem pairsD_get {xs ys : List D} {i : Nat} {d : D} (h : (pairsD xs ys)[i]? = some d) : ∃ x y, xs[i]? = some x ∧ ys[i]? = some y ∧ d = .tup [x, y] := by
  unfold pairsD at h
  rw [List.getElem?_map, Option.map_eq_some_iff] at h
  obtain ⟨⟨x, y⟩, h, rfl⟩ := h
  rw [List.getElem?_zip_eq_some] at h
  exact ⟨x, y, h.1, h.2, rfl⟩
theorem part_at {K : PySem.W.Frag} {μ : List Addr} {H : Hp} {ah : AH} {d : D} {v : V} {ds : List D} {g : List (Nat × List D)} (S : Sim K μ H ah) (r : Rep K μ H d v) (e : partOf d ah = some (ds, g)) :
    ∃ p : Bool × Addr, v = .ref p.2 ∧ ∀ μ' H' ah', Ext K μ H μ' H' → Sim K μ' H' ah' → (g.all fun q => decide (listAt ah' q.1 = some q.2)) = true → ∃ xs, HZ.PtAt K H' p xs ∧ Reps K μ' H' ds xs := by
  unfold partOf at e
  split at e
  · cases e
    obtain ⟨a, vs, rfl, q, rr⟩ := d_tup r
    exact ⟨(true, a), rfl, fun μ' H' ah' x S' _ => ⟨vs, x.tup.1 a vs q, rr.ext x⟩⟩
  · rename_i n
    rw [Option.map_eq_some_iff] at e
    obtain ⟨ds', el, e⟩ := e
    cases e
    obtain ⟨a, ea, rfl⟩ := d_ref r
    refine ⟨(false, a), rfl, fun μ' H' ah' x S' o => ?_⟩
    simp only [List.all_cons, List.all_nil, Bool.and_true, decide_eq_true_eq] at o
    obtain ⟨b, vs, eb, q, rr⟩ := S'.list o
    rw [pre_get x.pre ea] at eb; cases eb
    exact ⟨vs, q, rr⟩
  · cases e
theorem zip_ok {K : PySem.W.Frag} {μ : List Addr} {H : Hp} {ah : AH} {st : Bool} {d e : D} {v w : V} {t : Itm} (S : Sim K μ H ah) (r : Rep K μ H d v) (r' : Rep K μ H e w) (q : iZipD st d e ah = .ok t ah) :
    ∃ (p1 p2 : Bool × Addr) (N : Nat) (xs ys : List V), [v, w] = [.ref p1.2, .ref p2.2] ∧ HZ.PtAt K H p1 xs ∧ HZ.PtAt K H p2 ys ∧ ItOk K μ H t (HZ.Itq K st N p1 p2) := by
  unfold iZipD at q
  split at q
  · rename_i ds g ds' g' e1 e2
    split at q
    · cases q
    · rename_i hs
      cases q
      obtain ⟨p1, rfl, k1⟩ := part_at S r e1
      obtain ⟨p2, rfl, k2⟩ := part_at S r' e2
      have ok1 : (g.all fun q => decide (listAt ah q.1 = some q.2)) = true := by
        unfold partOf at e1
        split at e1
        · cases e1; rfl
        · rw [Option.map_eq_some_iff] at e1
          obtain ⟨x, el, e1⟩ := e1
          cases e1
          simp [el]
        · cases e1
      have ok2 : (g'.all fun q => decide (listAt ah q.1 = some q.2)) = true := by
        unfold partOf at e2
        split at e2
        · cases e2; rfl
        · rw [Option.map_eq_some_iff] at e2
          obtain ⟨x, el, e2⟩ := e2
          cases e2
          simp [el]
        · cases e2
      obtain ⟨xs, hx, rx⟩ := k1 μ H ah Ext.refl S ok1
      obtain ⟨ys, hy, ry⟩ := k2 μ H ah Ext.refl S ok2
      refine ⟨p1, p2, (pairsD ds ds').length, xs, ys, rfl, hx, hy, ?_⟩
      intro i μ' H' ah' x S' o
      have o : ((g ++ g').all fun q => decide (listAt ah' q.1 = some q.2)) = true := o
      rw [List.all_append, Bool.and_eq_true] at o
      obtain ⟨us, hu, ru⟩ := k1 μ' H' ah' x S' o.1
      obtain ⟨ws, hw, rw'⟩ := k2 μ' H' ah' x S' o.2
      have lN : (pairsD ds ds').length = min ds.length ds'.length := by unfold pairsD; simp
      have l1 := ru.length
      have l2 := rw'.length
      refine ⟨fun hl => ⟨hl, us, ws, hu, hw, by omega, by omega, by omega, fun es => ?_⟩, fun d ed => ?_⟩
      · have : ds.length = ds'.length := by
          by_cases q : ds.length = ds'.length
          · exact q
          · exact (hs ⟨es, q⟩).elim
        omega
      · obtain ⟨a, b, ea, eb, rfl⟩ := pairsD_get ed
        obtain ⟨va, eva, rva⟩ := ru.get ea
        obtain ⟨vb, evb, rvb⟩ := rw'.get eb
        refine ⟨⟨(List.getElem?_eq_some_iff.mp ed).1, us, ws, va, vb, hu, hw, eva, evb⟩, fun y H'' yl => ?_⟩
        obtain ⟨T, y1, y2, rfl, nT, rfl, z1, z2⟩ := yl
        have f1 := z1 us hu
        rw [eva] at f1; cases f1
        have f2 := z2 ws hw
        rw [evb] at f2; cases f2
        have ex : Ext K μ' H' μ' (upd H' T (.tup [va, vb])) := Ext.other nT
        refine ⟨ex, S'.other nT, ?_⟩
        simp only [Rep]
        exact ⟨T, _, rfl, SqT.of upd_same, Reps.cons (rva.ext ex) (Reps.cons (rvb.ext ex) Reps.nil)⟩
  · cases q
theorem iZip_ah {st : Bool} {d f : D} {ah ah' : AH} {t : Itm} (h : iZipD st d f ah = .ok t ah') : ah' = ah := by
  unfold iZipD at h
  split at h
  · split at h
    · cases h
    · cases h; rfl
  · cases h
theorem iZip_exn {st : Bool} {d f : D} {ah ah' : AH} {c : Str} {fs} (h : iZipD st d f ah = .exn c fs ah') : False := by
  unfold iZipD at h
  split at h
  · split at h <;> cases h
  · cases h
theorem zip_run {K : PySem.W.Frag} {Wx : Value → Option Addr → Hp → Prop} {μ : List Addr} {H : Hp} {ah : AH} {st : Bool} {d f : D} {v w : V} {R : It → Hp → Prop} (S : Sim K μ H ah) (r : Rep K μ H d v) (r' : Rep K μ H f w) (h : Post K (RI K) Wx μ H R (iZipD st d f ah)) : HZ.ZipOk K st [v, w] H R := by
  cases q : iZipD st d f ah with
  | ok t ah3 =>
    obtain rfl := iZip_ah q
    obtain ⟨p1, p2, N, xs, ys, e, hx, hy, hr⟩ := zip_ok S r r' q
    rw [q] at h
    exact ⟨p1, p2, N, xs, ys, e, hx, hy, Post.ok1 (R := RI K) h S hr⟩
  | exn c fs ah3 => exact (iZip_exn q).elim
  | stuck => rw [q] at h; exact h.elim
section
variable {X : Cx} {W : WX} {e f : Expr} {m m2 : EM D} {p pos tpos kpos : Pos} {elts : List Expr} {kk : Nat} {kws : List Keyword}
theorem pf_zip (hg : Gl X "zip") (hm : X.mg "zip" = none) (h : PD X W e m) (h2 : PD X W f m2) (hs : starEach [e, f] X.env = [(false, eval e X.env), (false, eval f X.env)] := by rfl) (hs2 : starEach [f] X.env = [(false, eval f X.env)] := by rfl) (h0 : starEach [e, f] X.env = (false, eval e X.env) :: starEach [f] X.env := by rfl) (hpl : (backTo pos (starEach [f] X.env)).any (·.1) = false := by rfl) :
    PF X W (.Tuple elts kk tpos) (.Call (.Name "zip" p) [e, f] [] pos) (e2 m m2 (iZipD false)) := by
  refine PI.weak (HZ.pi_zipN hg hm (pa_cons h (pa_cons h2 pa_nil hs2) (by rw [hs, hs2])) h0 hpl) fun σ H R ⟨μ, env, ah, he, hs, hp⟩ => ?_
  refine ⟨μ, env, ah, he, hs, hp.bind fun d ah1 μ1 x H1 e1 s1 r1 p1 => ?_⟩
  refine tG_next he e1 s1 (p1.bind fun d2 ah2 μ2 y H2 e2 s2 r2 p2 => ?_)
  exact zip_run s2 (Rep.ext (show Rep X.K μ1 H1 d x from r1) e2) (show Rep X.K μ2 H2 d2 y from r2) p2
theorem pf_zipS (hg : Gl X "zip") (hm : X.mg "zip" = none) (h : PD X W e m) (h2 : PD X W f m2) (hk : PKs X W0 kws (aCons (eC (.bl true)) aNil)) (hs : starEach [e, f] X.env = [(false, eval e X.env), (false, eval f X.env)] := by rfl) (hs2 : starEach [f] X.env = [(false, eval f X.env)] := by rfl)
    (he' : backTo pos (starEach [e, f] X.env) = (false, eval e X.env) :: backTo pos (starEach [f] X.env) := by rfl) (hpl : (backTo pos (starEach [e, f] X.env)).any (·.1) = false := by rfl)
    (hall : (backToKw pos (keywordEach kws X.env)).all (·.1.isSome) = true := by rfl) (hnone : (backToKw pos (keywordEach kws X.env)).any (·.1.isNone) = false := by rfl) (hks : (backToKw pos (keywordEach kws X.env)).filterMap (·.1) = (["strict"] : List Str) := by rfl) :
    PF X W (.Tuple elts kk tpos) (.Call (.Name "zip" p) [e, f] kws pos) (e2 m m2 (iZipD true)) := by
  refine PI.weak (HZ.pi_zipS hg hm (pa_cons h (pa_cons h2 pa_nil hs2) (by rw [hs, hs2])) hk.pk he' hpl hall hnone hks) fun σ H R ⟨μ, env, ah, he, hs, hp⟩ => ?_
  refine ⟨μ, env, ah, he, hs, hp.bind fun d ah1 μ1 x H1 e1 s1 r1 p1 => ?_⟩
  refine tG_next he e1 s1 (p1.bind fun d2 ah2 μ2 y H2 e2 s2 r2 p2 => ?_)
  refine ⟨μ2, env, ah2, (he.ext e1).ext e2, s2, fun μ3 zs H3 e3 s3 r3 => ?_⟩
  obtain ⟨v, rfl, rv⟩ := reps1 (show Reps X.K μ3 H3 [.bl true] zs from r3)
  rw [d_bl rv]
  exact ⟨rfl, zip_run s3 (Rep.ext (Rep.ext (show Rep X.K μ1 H1 d x from r1) e2) e3) (Rep.ext (show Rep X.K μ2 H2 d2 y from r2) e3) (Post.ext e3 p2)⟩
end
end HA
namespace HA
open PySem PySem.Spec PyProof.Rows L2
def rSortQ (K : PySem.W.Frag) : List V → Hp → VK → Prop := fun vs H Q => ∃ (a : Addr) (xs : List V) (k : V → Int × Int), vs = [V.ref a] ∧ SqL K H a xs ∧ (∀ x ∈ xs, ∃ t, x = V.ref t ∧ SqT K H t [.int (k x).1, .int (k x).2]) ∧
  ∀ ys p, SrtO.Srtd (ltP k) ys → SrtO.Stb (ltP k) ys xs → H p = none → Q (.ref p) (upd H p (.lst ys))
def pairOf : D → Option (Int × Int)
  | .tup [.int a, .int b] => some (a, b)
  | _ => none
def ofPair (p : Int × Int) : D := .tup [.int p.1, .int p.2]
def lexLe (p q : Int × Int) : Bool := decide (p.1 < q.1 ∨ p.1 = q.1 ∧ p.2 ≤ q.2)
def intLe (p q : Int) : Bool := decide (p ≤ q)
def lSort (ds : List D) (ah : AH) : Res (List D) := match optAll dInt ds with
  | some ns => .ok ((ns.mergeSort intLe).map D.int) ah
  | none => match optAll pairOf ds with
    | some ps => .ok ((ps.mergeSort lexLe).map ofPair) ah
    | none => .stuck
def PrAt (K : PySem.W.Frag) (H : Hp) (x : V) (p : Int × Int) : Prop := ∃ t, x = V.ref t ∧ SqT K H t [.int p.1, .int p.2]
inductive PrAll (K : PySem.W.Frag) (H : Hp) : List V → List (Int × Int) → Prop
  | nil : PrAll K H [] []
  | cons {x xs p ps} : PrAt K H x p → PrAll K H xs ps → PrAll K H (x :: xs) (p :: ps)
def rSortR (K : PySem.W.Frag) : List V → Hp → VK → Prop := fun vs H Q => ∃ (a : Addr) (xs : List V) (ps : List (Int × Int)), vs = [V.ref a] ∧ SqL K H a xs ∧ PrAll K H xs ps ∧
  ∀ ys p, PrAll K H ys (ps.mergeSort lexLe) → H p = none → Q (.ref p) (upd H p (.lst ys))
theorem PrAll.map {K : PySem.W.Frag} {H : Hp} {k : V → Int × Int} : ∀ {xs : List V}, (∀ x ∈ xs, PrAt K H x (k x)) → PrAll K H xs (xs.map k)
  | [], _ => .nil
  | x :: xs, h => .cons (h x List.mem_cons_self) (PrAll.map fun y hy => h y (List.mem_cons_of_mem _ hy))
theorem PrAll.of {K : PySem.W.Frag} {H : Hp} {k : V → Int × Int} (hk : ∀ x p, PrAt K H x p → k x = p) : ∀ {xs : List V} {ps : List (Int × Int)}, PrAll K H xs ps → ps = xs.map k ∧ ∀ x ∈ xs, PrAt K H x (k x)
  | [], _, .nil => ⟨rfl, fun _ h => by cases h⟩
  | x :: xs, _ :: ps, .cons h t => by
    obtain ⟨e, q⟩ := PrAll.of hk t
    have e0 := hk _ _ h
    refine ⟨by rw [List.map_cons, e0, e], fun y hy => ?_⟩
    rcases List.mem_cons.mp hy with z | z
    · subst z; rw [e0]; exact h
    · exact q y z
theorem Reps.uncons {K : PySem.W.Frag} {μ : List Addr} {H : Hp} {d : D} {ds : List D} {vs : List V} (h : Reps K μ H (d :: ds) vs) : ∃ v ws, vs = v :: ws ∧ Rep K μ H d v ∧ Reps K μ H ds ws := by simpa only [Reps] using h
theorem PrAll.back {K : PySem.W.Frag} {μ : List Addr} {H : Hp} : ∀ {xs : List V} {ps : List (Int × Int)}, Reps K μ H (ps.map ofPair) xs → PrAll K H xs ps
  | [], [], r => .nil
  | [], p :: ps, r => by have := r.length; simp at this
  | x :: xs, [], r => by have := r.length; simp at this
  | x :: xs, p :: ps, r => by
    obtain ⟨v, vs, e, h, t⟩ := Reps.uncons r
    cases e
    obtain ⟨a, ws, rfl, q, rr⟩ := d_tup (show Rep K μ H (.tup [.int p.1, .int p.2]) x from h)
    obtain rfl := Reps.ints (ns := [p.1, p.2]) rr
    exact .cons ⟨a, rfl, q⟩ (PrAll.back t)
section
variable {X : Cx} {W : WX} {e : Expr} {ml : EM (List D)} {p pos : Pos}
end
end HA
namespace HA
open PySem PySem.Spec PyProof.Rows L2
end HA
namespace HA
open PySem PySem.Spec PyProof.Rows L2
structure UpC (K : PySem.W.Frag) (D : Addr) : Prop where
  sp : PySem.W.specialIn K (.ref D) "__getattribute__" = some (some (.builtin "type.__getattribute__"))
  rd : PySem.W.readsIn K D (.type "type") = true
  ini : PySem.W.findCls K (.ref D) (.type "type") "__init__" = some (.val (.builtin "ValueError.__init__"))
def UpAsk (o e : Expr) (es : List Expr) (p2 pos : Pos) (env : PySem.Env) : Prop := ∃ pl : Sem Bool, eval (.Call (.Attribute o "__init__" p2) (e :: es) [] pos) env = (do
  let v ← eval o env
  standAt p2.atName
  let q ← holding [v] (getMethod v "__init__" pl)
  callWith pos q.1 q.2 (backTo pos (starEach (e :: es) env)) (backToKw pos (keywordEach [] env)))
theorem pe_upI {X : Cx} {y : Str} {D : Addr} {e : Expr} {es : List Expr} {ta : TA} {p1 p2 pos : Pos} (U : UpC X.K D) (hg : Gl X y) (hm : X.mg y = some (.ref D)) (ha : PA X (e :: es) ta) (hc : UpAsk (.Name y p1) e es p2 pos X.env)
    (hd : (y == ("__debug__" : Str)) = false := by decide) (he : starEach (e :: es) X.env = (false, eval e X.env) :: starEach es X.env := by rfl) (hpl : (backTo pos (starEach es X.env)).any (·.1) = false := by rfl) :
    PE X (.Call (.Attribute (.Name y p1) "__init__" p2) (e :: es) [] pos) (tVeI X.K ta) := by
  refine ⟨fun pins s σ H Q I h => ?_⟩
  obtain ⟨pl, hc⟩ := hc
  refine PySem.W.methodCall_KW (pl := pl) (ld_glob I hg hm ?_ hd) hc
  refine PySem.W.method_cls I.kIn U.sp (PySem.W.cls_value I.kIn U.rd U.ini (by decide +kernel) ?_)
  have I' := I.tok (s.toks + 1)
  refine PyProof.Rows.callWith_method1 (thn (ha.run pos pins _ σ H _ I' h) fun us s1 z => ?_) he hpl
  obtain ⟨vs, H1, I1, r1, a, C, ws, ev, hl, T, ea, q⟩ := z
  subst ev
  cases r1 with
  | @cons _ u0 _ ur ra rw' =>
    cases ra
    refine oinit_ok T I1 ea ?_ fun s' J => ⟨.non, H1, J, rfl, q⟩
    have := Paired.length rw'
    rw [sizeLine_eq]
    omega
def spX (K : PySem.W.Frag) (C : Addr) (f : Str) : Sp := fun vs H Q _ => ∃ (a : Addr) (v : V), vs = [.ref a, v] ∧ H a = some (exo a C none) ∧ ∀ dx, H dx = none → dx ≠ a → Q .non (upd (upd H dx (exd dx [(f, v)])) a (exo a C (some dx)))
structure XT (K : PySem.W.Frag) (mg : Str → Option Value) (x f : Str) : Prop where
  gC : mg x = some (.ref (gA K x))
  oex : OexC K (gA K x)
  noF : PySem.W.findIn K (.ref (gA K x)) f = some none
  ini : ∃ (fI D : Addr) (fd : FuncData) (y qual : Str) (st : Stmt) (txt : Str) (j : Nat) (p1 p2 p3 p4 p5 p6 p7 p8 p9 p10 : Pos), PySem.W.findIn K (.ref (gA K x)) "__init__" = some (some (.ref fI)) ∧ PySem.W.typeIn K (.ref fI) = some (.type "function") ∧
    Fun K "__init__" qual st fI fd ∧ FnScope [("self" : Str), f] [("self" : Str), f] (defScope st) ∧ Binds K fd [("self" : Str), f] [] ∧ UpC K D ∧ mg y = some (.ref D) ∧ (y == ("__debug__" : Str)) = false ∧ (f == ("__debug__" : Str)) = false ∧ (f == ("__classdict__" : Str)) = false ∧
    (defScope st).names.lookup ("self" : Str) = some NameKind.local ∧ (defScope st).names.lookup f = some NameKind.local ∧ (defScope st).names.lookup y = some NameKind.globalImplicit ∧
    (∀ env, UpAsk (.Name y p1) (.Name "self" p3) [.Constant (.str txt) j p4] p2 p5 env) ∧
    defBody st = [.Expr (.Call (.Attribute (.Name y p1) "__init__" p2) [.Name "self" p3, .Constant (.str txt) j p4] [] p5) p6, .Assign [.Attribute (.Name "self" p7) f p8] (.Name f p9) p10]
section
variable {P : Program} {w : World} {K : PySem.W.Frag} {mg : Str → Option Value} {base : Heap} {x f : Str}
theorem XT.fn (T : XT K mg x f) : ∃ (fI : Addr) (fd : FuncData), PySem.W.findIn K (.ref (gA K x)) "__init__" = some (some (.ref fI)) ∧ PySem.W.typeIn K (.ref fI) = some (.type "function") ∧
    FnOk P w K mg base (L2.CX P w) 1 fI fd ["self", f] (spX K (gA K x) f) ∧ Binds K fd ["self", f] [] := by
  obtain ⟨fI, D, fd, y, qual, st, txt, j, p1, p2, p3, p4, p5, p6, p7, p8, p9, p10, h1, h2, F, S, B, U, gy, dy, df, cf, ls, lf, ly, hc, hb⟩ := T.ini
  refine ⟨fI, fd, h1, h2, F.okX S (fun vs H Q E ⟨a, v, e, _⟩ => by rw [e]; rfl) (fun cdv A outer s H vs Q E hr z => ?_), B⟩
  obtain ⟨a, v, ev, ha, hq⟩ := z
  subst ev
  rw [hb]
  refine ⟨_, pss_cons (ps_expr (pe_upI U (show Gl _ _ from ly) gy (pa_cons (pv 0 rfl (.inl ls)) (pa_cons pe_str pa_nil)) (hc _) dy)) (pss_one (ps_ost (pv 0 rfl (.inl ls)) (pv 1 rfl (.inl lf) df cf))), ?_⟩
  refine ⟨_, rfl, ?_⟩
  refine ⟨a, gA K x, [.str txt], rfl, Nat.le_of_ble_eq_true rfl, T.oex, ha, ?_⟩
  refine ⟨_, rfl, ?_⟩
  refine ⟨_, rfl, a, gA K x, rfl, T.oex, T.noF, .inl ⟨ha, fun dx n1 n2 => hq dx n1 n2⟩⟩
end
def sRaise (x f : Str) (ml : EM (List D)) : SM := fun env ah => (ml env ah).thenS env fun ds ah1 => match ds with
  | [d] => .exn x (some [(f, d)]) env ah1
  | _ => .stuck
section
variable {X : Cx} {W : WX} {k : Nat} {x f : Str} {e : Expr} {ml : EM (List D)} {p pos rp : Pos}
theorem pz_raiseX (T : XT X.K X.mg x f) (hr : Rm (k + 2) X.A) (hc : X.calm = true) (tk : Takes X W) (hg : Gl X x) (ha : PAs X W [e] ml)
    (hdb : (x == ("__debug__" : Str)) = false := by decide) (he : starEach (e :: []) X.env = (false, eval e X.env) :: starEach [] X.env := by rfl) (hpl : (backTo pos (starEach [] X.env)).any (·.1) = false := by rfl) :
    PZ X W (.Raise (some (.Call (.Name x p) [e] [] pos)) none rp) (sRaise x f ml) := by
  obtain ⟨fI, fd, h1, h2, F, B⟩ := T.fn (P := X.prog) (w := X.w) (base := X.base)
  refine PS.weak (L2N.ps_raise hc tk.n (pmk_oexN T.oex h1 h2 F ((hr.mono (by omega) : Rm 2 X.A).room) B passL hg T.gC ha hdb he hpl)) fun D σ H z => ?_
  obtain ⟨μ, env, ah, hE, hS, hp⟩ := z
  refine ⟨μ, env, ah, hE, hS, PostS.bind hp hE fun ds ah1 μ1 vs H1 e1 s1 r1 p1 => ?_⟩
  split at p1
  · rename_i d
    have r1' : Reps X.K μ1 H1 [d] vs := r1
    simp only [Reps] at r1'
    obtain ⟨v, ws, rfl, rd, rfl⟩ := r1'
    refine ⟨by show 1 ≤ 1000; decide, fun a na => ⟨a, v, rfl, upd_same, fun dx n1 n2 => ⟨rfl, dx, [(f, v)], upd_same, by rw [upd_ne n2, upd_same], ?_, ?_⟩⟩⟩
    · rw [upd_ne n2] at n1; exact n1
    · have nd : H1 dx = none := by rw [upd_ne n2] at n1; exact n1
      have eq : upd (del (upd (upd (upd H1 a (exo a (gA X.K x) none)) dx (exd dx [(f, v)])) a (exo a (gA X.K x) (some dx))) a) dx (.xd [(f, v)]) = upd H1 dx (.xd [(f, v)]) := by
        funext b
        by_cases hb : b = dx
        · subst hb; rw [upd_same, upd_same]
        · rw [upd_ne hb, upd_ne hb]
          by_cases hba : b = a
          · subst hba; rw [del_same, na]
          · rw [del_ne hba, upd_ne hba, upd_ne hb, upd_ne hba]
      rw [eq]
      exact p1 μ1 σ _ (some dx) (Ext.other nd) (s1.other nd) (hE.ext (e1.trans (Ext.other nd))) ⟨dx, [(f, v)], rfl, upd_same, rfl, by
        show Reps _ _ _ [d] [v]
        exact Reps.cons (rd.ext (Ext.other nd)) Reps.nil⟩
  · exact p1.elim
end
end HA
namespace HA
open PySem PySem.Spec PyProof.Rows L2
def goneD (i : Nat) (D : Ends) : Ends := { nx := fun σ H => D.nx (σ.set i none) H, rt := D.rt, bk := fun σ H => D.bk (σ.set i none) H, ct := fun σ H => D.ct (σ.set i none) H }
abbrev Sui := Addr → Value → Option Addr → TS
def wAny (K : PySem.W.Frag) (Wo : WX) (D : Ends) : List (Value × Option Nat × Sui) → WX
  | [] => Wo
  | (c, oi, ts) :: r => fun k d σ H => ∃ b, PySem.W.exmOne K k c = some b ∧ (b = true → ∀ a, H a = none → match oi with
      | none => ts a k d D σ H
      | some i => ts a k d (goneD i D) (σ.set i (some (.ref a))) H) ∧ (b = false → wAny K Wo D r k d σ H)
def SuiOk (X : Cx) (sts : List Stmt) (ts : Sui) : Prop := ∀ (a : Addr) (o : Obj) (k : Value) (d : Option Addr) (pn : List (Addr × Obj)), Zc k d o → (∃ vs, o.data = .fields vs) → (Fr X.K k ∨ PXN.CtxN o) → PSs (X.suite a ((a, o) :: pn)) sts (ts a k d)
inductive Hds (X : Cx) : List ExceptHandler → List (Value × Option Nat × Sui) → Prop
  | nil : Hds X [] []
  | one {x : Str} {c : Value} {ts : Sui} {s0 : Stmt} {sr : List Stmt} {q1 q2 : Pos} {hs : List ExceptHandler} {l : List (Value × Option Nat × Sui)} (hc : Names X x c) (ok : SuiOk X (s0 :: sr) ts) (r : Hds X hs l) :
      Hds X (.ExceptHandler (some (.Name x q1)) none (s0 :: sr) q2 :: hs) ((c, none, ts) :: l)
  | named {x n : Str} {i : Nat} {c : Value} {ts : Sui} {s0 : Stmt} {sr : List Stmt} {q1 q2 : Pos} {hs : List ExceptHandler} {l : List (Value × Option Nat × Sui)} (hi : X.N[i]? = some n) (hl : X.env.kindOf n = some .local) (hc : Names X x c) (ok : SuiOk X (s0 :: sr) ts) (r : Hds X hs l) :
      Hds X (.ExceptHandler (some (.Name x q1)) (some n) (s0 :: sr) q2 :: hs) ((c, some i, ts) :: l)
section
variable {X : Cx} {body : List Stmt} {h0 : ExceptHandler} {hs : List ExceptHandler} {l : List (Value × Option Nat × Sui)} {pos : Pos} {tb : WX → TS} {Wo : WX}
def XEz (Z : Value → Option Addr → Obj → Prop) (X : Cx) (W : WX) (u : Value) (t : Shared) : Prop :=
  ∃ (x : Addr) (G : Heap) (t0 : Shared) (pins : List (Addr × Obj)) (σ : L2.St) (H : Hp) (k : Value) (d : Option Addr), u = .ref x ∧ Inv X pins σ H t0 ∧ (∀ b o, t0.heap.get? b = some o → b ∉ frs X.stack → G.get? b = some o) ∧ t0.heap.UpToSlots t.heap ∧
    Sky G X.stack x (Z k d) X.env.locals t.heap ∧ H x = none ∧ t.os = t0.os ∧ AllBare t.gens ∧ W k d σ H
abbrev xeTry (X : Cx) (pins : List (Addr × Obj)) (D : Ends) (hs : List ExceptHandler) : Value → Shared → Prop := fun u t => wpAny (model X.prog X.w) X.A (noteFrame u X.env) (fun _ t1 => wpAny (model X.prog X.w) X.A (setFlight u none) (fun _ t2 =>
    wpAny (model X.prog X.w) X.A (handleBy u X.env hs) (SP X pins D) X.xe t2) X.xe t1) X.xe t
end
end HA
namespace HA
open PySem PySem.Spec PyProof.Rows L2
section
open PySem.W PySem.Calls
variable {prog : Program} {w : World} {A : Around} {E : Value → Shared → Prop} {s : Shared} {K : Frag} {x D : Addr} {ox : Obj} {od : Option Obj}
end
def clsOf (K : PySem.W.Frag) : D → Option Value
  | .glo C => some (.ref (gA K C))
  | .cst (.ty T) => some (.type T)
  | _ => none
abbrev XTab := List (Str × D × Bool)
def xLook (tab : XTab) (c : Str) (d : D) : Option Bool := (tab.find? fun q => decide (q.1 = c ∧ q.2.1 = d)).map (·.2.2)
def xAny (tab : XTab) (c : Str) : List D → Option Bool
  | [] => some false
  | d :: r => match xLook tab c d with
    | some true => some true
    | some false => xAny tab c r
    | none => none
structure XTabOk (K : PySem.W.Frag) (tab : XTab) : Prop where
  ok : ∀ q ∈ tab, ExcC K (gA K q.1) ∧ ∃ u, clsOf K q.2.1 = some u ∧ PySem.W.kitOne K (.ref (gA K q.1)) u = some q.2.2
def oXis (tab : XTab) (a0 : Addr) (od : Option Addr) (c : Str) : List D → AH → Res D
  | [.xv a d ks _, .tup ds], ah => if (a = a0 ∧ (od = none ∨ od = some d ∧ ks ≠ [])) ∧ (ds.all fun d => (xLook tab c d).isSome) = true ∧ ds ≠ [] then match xAny tab c ds with
      | some b => .ok (.bl b) ah
      | none => .stuck else .stuck
  | [.xv a e ks _, d], ah => if a = a0 ∧ (od = none ∨ od = some e ∧ ks ≠ []) then match xLook tab c d with
      | some b => .ok (.bl b) ah
      | none => .stuck else .stuck
  | _, _ => .stuck
def oXf (cs : List Str) (a0 : Addr) (od : Option Addr) (c f : Str) : D → AH → Res D
  | .xv a d ks ds, ah => if a = a0 ∧ od = some d ∧ c ∈ cs then match (ks.zip ds).lookup f with
      | some x => .ok x ah
      | none => .stuck else .stuck
  | _, _ => .stuck
section
variable {X : Cx} {W : WX} {a : Addr} {o : Obj} {c : Str} {od : Option Addr} {pn : List (Addr × Obj)} {m : EM D} {ml : EM (List D)} {e : Expr} {es : List Expr} {pos p : Pos}
end
end HA
namespace HA
open PySem PySem.Spec PyProof.Rows L2
abbrev Flds := Option (List (Str × D))
def xvOf (a : Addr) (od : Option Addr) : Flds → D
  | none => .xv a 0 [] []
  | some l => .xv a (od.getD 0) (l.map (·.1)) (l.map (·.2))
def clr (i : Nat) : SRes → SRes
  | .nx env ah => .nx (env.set i none) ah
  | .rt d ah => .rt d ah
  | .bk env ah => .bk (env.set i none) ah
  | .ct env ah => .ct (env.set i none) ah
  | _ => .stuck
def noX : SRes → SRes
  | .exn _ _ _ _ => .stuck
  | r => r
abbrev SuiM := Addr → Option Addr → Str → SM
def sSui (i : Option Nat) (m : SuiM) (a : Addr) (od : Option Addr) (c : Str) (fs : Flds) (env : Env) (ah : AH) : SRes := match i with
  | none => noX (m a od c env ah)
  | some i => clr i (m a od c (env.set i (some (xvOf a od fs))) ah)
structure Hnd where
  c : Str
  i : Option Nat
  m : SuiM
def z0 : Option Addr → Option Addr := Option.map fun _ => 0
abbrev STab := List (Str × Str × Bool)
def sLook (t : STab) (c C : Str) : Option Bool := (t.find? fun q => decide (q.1 = c ∧ q.2.1 = C)).map (·.2.2)
def sHnd (t : STab) : List Hnd → Str → Flds → SM
  | [], c, fs => fun env ah => .exn c fs env ah
  | h :: r, c, fs => fun env ah => match sLook t c h.c with
    | some true => sSui h.i h.m 0 (fs.map fun _ => 0) c fs env ah
    | some false => sHnd t r c fs env ah
    | none => .stuck
def sTry (t : STab) (mb : SM) (l : List Hnd) : SM := fun env ah => match mb env ah with
  | .exn c fs env1 ah1 => sHnd t l c fs env1 ah1
  | r => r
structure STabOk (K : PySem.W.Frag) (t : STab) : Prop where
  ok : ∀ q ∈ t, PySem.W.exmOne K (.ref (gA K q.1)) (.ref (gA K q.2.1)) = some q.2.2
def Blind (i : Option Nat) (m : SuiM) : Prop := ∀ a od c fs env ah, od.isSome = Option.isSome fs → sSui i m a od c fs env ah = sSui i m 0 (z0 od) c fs env ah
def DSui (X : Cx) (t : STab) (C : Str) (sts : List Stmt) (m : SuiM) : Prop := ∀ (a : Addr) (o : Obj) (c : Str) (od : Option Addr) (pn : List (Addr × Obj)), Zc (.ref (gA X.K c)) od o → (∃ vs, o.data = .fields vs) → (Fr X.K (.ref (gA X.K c)) ∨ PXN.CtxN o) → sLook t c C = some true → PZs (X.suite a ((a, o) :: pn)) W0 sts (m a od c)
inductive HDs (X : Cx) (t : STab) : List ExceptHandler → List Hnd → Prop
  | nil : HDs X t [] []
  | one {x C : Str} {m : SuiM} {s0 : Stmt} {sr : List Stmt} {q1 q2 : Pos} {hs : List ExceptHandler} {l : List Hnd} (hc : Names X x (.ref (gA X.K C))) (ok : DSui X t C (s0 :: sr) m) (b : Blind none m) (r : HDs X t hs l) :
      HDs X t (.ExceptHandler (some (.Name x q1)) none (s0 :: sr) q2 :: hs) (⟨C, none, m⟩ :: l)
  | named {x n C : Str} {i : Nat} {m : SuiM} {s0 : Stmt} {sr : List Stmt} {q1 q2 : Pos} {hs : List ExceptHandler} {l : List Hnd} (hi : X.N[i]? = some n) (hl : X.env.kindOf n = some .local) (hc : Names X x (.ref (gA X.K C))) (ok : DSui X t C (s0 :: sr) m) (b : Blind (some i) m) (r : HDs X t hs l) :
      HDs X t (.ExceptHandler (some (.Name x q1)) (some n) (s0 :: sr) q2 :: hs) (⟨C, some i, m⟩ :: l)
section
variable {K : PySem.W.Frag} {μ : List Addr} {H : Hp} {env : Env} {ah : AH} {σ : L2.St} {D : Ends} {W : WX}
theorem EnvRel.unset (h : EnvRel K μ H env σ) (i : Nat) : EnvRel K μ H (env.set i none) (σ.set i none) := by
  refine ⟨by simp [h.1], fun j x e => ?_⟩
  by_cases hj : i = j
  · subst hj
    by_cases hl : i < env.length
    · rw [List.getElem?_set_self hl] at e; cases e
    · rw [List.getElem?_eq_none (by simpa using hl)] at e; cases e
  · rw [List.getElem?_set_ne hj] at e
    obtain ⟨w, q, r⟩ := h.2 j x e
    exact ⟨w, by rw [List.getElem?_set_ne hj]; exact q, r⟩
end
section
variable {X : Cx} {W : WX} {body : List Stmt} {h0 : ExceptHandler} {hs : List ExceptHandler} {l : List Hnd} {t : STab} {mb : SM} {pos : Pos}
def suiOf (K : PySem.W.Frag) (t : STab) (C : Str) (m : SuiM) : Sui := fun a k od D σ H => ∃ c, sLook t c C = some true ∧ k = .ref (gA K c) ∧ tS K W0 (m a od c) D σ H
theorem sui_ok {sts : List Stmt} {C : Str} {m : SuiM} (h : DSui X t C sts m) : SuiOk X sts (suiOf X.K t C m) := fun a o k d pn hz hf hk =>
  ⟨fun pins s σ H D I q => by
    obtain ⟨c, hl, rfl, q⟩ := q
    exact (h a o c d pn hz hf hk hl).run pins s σ H D I q⟩
theorem HDs.l2 : ∀ {hs : List ExceptHandler} {l : List Hnd}, HDs X t hs l → Hds X hs (l.map fun h => (.ref (gA X.K h.c), h.i, suiOf X.K t h.c h.m))
  | _, _, .nil => .nil
  | _, _, .one hc ok _ r => .one hc (sui_ok ok) r.l2
  | _, _, .named hi hl hc ok _ r => .named hi hl hc (sui_ok ok) r.l2
end
abbrev XM (α : Type) := Addr → Option Addr → EM α
def BE {α : Type} (i : Nat) (f : XM α) : Prop := ∀ (a : Addr) (od : Option Addr) (fs : Flds) (env : Env) (ah : AH), Option.isSome od = Option.isSome fs → f a od (env.set i (some (xvOf a od fs))) ah = f 0 (z0 od) (env.set i (some (xvOf 0 (z0 od) fs))) ah
section
variable {α β γ δ : Type} {i : Nat}
end
def SimS (i : Nat) (x y : D) : SRes → SRes → Prop
  | .nx e h, .nx e' h' => h = h' ∧ ∃ e0 : Env, e = e0.set i (some x) ∧ e' = e0.set i (some y)
  | .bk e h, .bk e' h' => h = h' ∧ ∃ e0 : Env, e = e0.set i (some x) ∧ e' = e0.set i (some y)
  | .ct e h, .ct e' h' => h = h' ∧ ∃ e0 : Env, e = e0.set i (some x) ∧ e' = e0.set i (some y)
  | .rt d h, .rt d' h' => d = d' ∧ h = h'
  | .exn _ _ _ _, .exn _ _ _ _ => True
  | .stuck, .stuck => True
  | _, _ => False
def BS (i : Nat) (f : Addr → Option Addr → SM) : Prop := ∀ (a : Addr) (od : Option Addr) (fs : Flds) (env : Env) (ah : AH), Option.isSome od = Option.isSome fs → SimS i (xvOf a od fs) (xvOf 0 (z0 od) fs) (f a od (env.set i (some (xvOf a od fs))) ah) (f 0 (z0 od) (env.set i (some (xvOf 0 (z0 od) fs))) ah)
theorem SimS.clr {i : Nat} {x y : D} {r r' : SRes} (h : SimS i x y r r') : clr i r = clr i r' := by
  cases r <;> cases r' <;> first | exact h.elim | rfl | (obtain ⟨rfl, e0, rfl, rfl⟩ := h; simp [HA.clr]) | (obtain ⟨rfl, rfl⟩ := h; rfl)
section
variable {i : Nat} {α : Type}
end
end HA
namespace HA
open PySem PySem.Spec PyProof.Rows L2
section
variable {X : Cx} {W : WX} {k : Nat} {e : Expr} {es : List Expr} {m : EM D} {ml mk : EM (List D)} {pos p : Pos} {x : Str}
theorem pd_glo (hg : Gl X x) (hm : X.mg x = some (.ref (gA X.K x))) (hd : (x == ("__debug__" : Str)) = false := by decide) : PD X W (.Name x pos) (eC (.glo x)) :=
  pd_c (pe_glob (v := .ref (gA X.K x)) hg hm rfl hd) fun _ _ => by simp only [Rep]
abbrev CTab := List (Str × D)
def oCD (t : CTab) : D → AH → Res D
  | .str z, ah => match t.lookup z with
    | some d => .ok d ah
    | none => .stuck
  | _, _ => .stuck
structure CDOk (K : PySem.W.Frag) (w : World) (mg : Str → Option Value) (x : Str) (t : CTab) : Prop where
  ok : ∃ p es n, mg x = some (.ref p) ∧ K.lookup p = some ⟨.type "dict", none, .dict es n, #[]⟩ ∧ PySem.W.KeysLit w.params es.toList ∧ ∀ q ∈ t, ∃ u, PySem.W.nsIn K p q.1 = some (some u) ∧ CR K u q.2
theorem look_mem {α : Type} {z : Str} {d : α} : ∀ {t : List (Str × α)}, t.lookup z = some d → (z, d) ∈ t
  | [], h => by simp at h
  | q :: r, h => by
    rw [List.lookup_cons] at h
    split at h
    · rename_i e
      cases h
      have : z = q.1 := by simpa using e
      rw [this]; exact .head _
    · exact .tail _ (look_mem h)
theorem pd_cdict {t : CTab} {b : Expr} {np : Pos} (T : CDOk X.K X.w X.mg x t) (hg : Gl X x) (hb : PD X W b m) (hs : PlainIx b) (hd : (x == ("__debug__" : Str)) = false := by decide) : PD X W (.Subscript (.Name x np) b pos) (e1 m (oCD t)) := by
  obtain ⟨p, es, n, hm, hl, hk, hv⟩ := T.ok
  refine PE.weak (pe_ix ix_kdict (pe_glob (v := .ref p) hg hm rfl hd) hb hs) fun σ H Q z => ?_
  obtain ⟨μ, env, ah, hE, hS, hp⟩ := z
  refine ⟨μ, env, ah, hE, hS, hp.bind fun d ah1 μ1 y H1 x1 s1 r1 p1 => ?_⟩
  cases d with
  | str z =>
    have r1' : Rep X.K μ1 H1 (.str z) y := r1
    rw [d_str r1']
    unfold oCD at p1
    dsimp only at p1
    split at p1
    · rename_i d hd'
      obtain ⟨u, hn, v, rv, rep⟩ := hv _ (look_mem hd')
      exact ⟨p, z, v, rfl, rfl, ⟨es, n, u, hl, hk, hn, rv⟩, Post.ok1 (R := RD X.K) p1 s1 (rep μ1 H1)⟩
    · exact p1.elim
  | _ => exact p1.elim
abbrev MTab := List (Str × (List D → AH → Res D))
def eCallL (i : Nat) (t : MTab) (ml : EM (List D)) : EM D := fun env ah => match env[i]? with
  | some (some (.glo f)) => match t.lookup f with
    | some m => (ml env ah).bind m
    | none => .stuck
  | _ => .stuck
structure MOk (P : Program) (w : World) (K : PySem.W.Frag) (mg : Str → Option Value) (base : Heap) (k n : Nat) (f : Str) (m : List D → AH → Res D) : Prop where
  ok : ∃ fd ps, FnG P w K mg base k (gA K f) fd ps m ∧ PySem.W.keepIn K (.ref (gA K f)) = true ∧ Binds K fd ps [] ∧ ps.length = n
variable {f : Addr} {fd : FuncData} {ps ks : List Str} {mf : List D → AH → Res D} {kws : List Keyword} {g : {α : Type} → List α → List α → List α}
structure ClsT (K : PySem.W.Frag) (C : Str) (fs : List Str) : Prop where
  cl : Cls K (gA K C)
  no : ∀ f ∈ fs, NoAttr K (gA K C) f
def oFld (C : List (Str × List Str)) (f : Str) : D → AH → Res D
  | .ref n, ah => match ah[n]? with
    | some (.ins c kvs) => match C.lookup c with
      | some fs => if f ∈ fs then match kvs.lookup f with
        | some d => .ok d ah
        | none => .stuck else .stuck
      | none => .stuck
    | _ => .stuck
  | _, _ => .stuck
theorem look_rel {K : PySem.W.Frag} {μ : List Addr} {H : Hp} {f : Str} {d : D} : ∀ {kvs : List (Str × D)} {kws : List (Str × V)}, kvs.map (·.1) = kws.map (·.1) → Reps K μ H (kvs.map (·.2)) (kws.map (·.2)) → kvs.lookup f = some d → ∃ v, kws.lookup f = some v ∧ Rep K μ H d v
  | [], _, _, _, h => by simp at h
  | (k, d0) :: kvs, [], e, _, _ => by simp at e
  | (k, d0) :: kvs, (k2, v0) :: kws, e, r, h => by
    simp only [List.map_cons, List.cons.injEq] at e
    obtain ⟨rfl, e⟩ := e
    simp only [List.map_cons, Reps] at r
    obtain ⟨v, ws, e2, r1, r2⟩ := r
    simp only [List.cons.injEq] at e2
    obtain ⟨rfl, rfl⟩ := e2
    rw [List.lookup_cons] at h ⊢
    split at h
    · cases h; exact ⟨v0, by simp [*], r1⟩
    · obtain ⟨v', e', r'⟩ := look_rel e r2 h
      exact ⟨v', by simp [*], r'⟩
theorem pd_fld {C : List (Str × List Str)} {f : Str} (T : ∀ q ∈ C, ClsT X.K q.1 q.2) (he : PD X W e m) (hb : attributeBase e f X.env (eval e X.env) = eval e X.env := by rfl) : PD X W (.Attribute e f pos) (e1 m (oFld C f)) := by
  refine PE.weak (pe_fld he hb) fun σ H Q z => ?_
  obtain ⟨μ, env, ah, hE, hS, hp⟩ := z
  refine ⟨μ, env, ah, hE, hS, hp.bind fun d ah1 μ1 y H1 x1 s1 r1 p1 => ?_⟩
  cases d with
  | ref n =>
    obtain ⟨a, ea, rfl⟩ := d_ref (show Rep X.K μ1 H1 (.ref n) y from r1)
    unfold oFld at p1
    dsimp only at p1
    split at p1
    · rename_i c kvs hn
      split at p1
      · rename_i fs hc
        split at p1
        · rename_i hf
          split at p1
          · rename_i d hd
            obtain ⟨dx, fws, e0, ek, rr⟩ := s1.ok n a _ ea hn
            obtain ⟨v, hv, rv⟩ := look_rel ek rr hd
            have t := T _ (look_mem hc)
            exact ⟨a, gA X.K c, dx, fws, v, rfl, e0, t.cl, t.no f hf, hv, Post.ok1 (R := RD X.K) p1 s1 rv⟩
          · exact p1.elim
        · exact p1.elim
      · exact p1.elim
    · exact p1.elim
  | _ => exact p1.elim
def putFd (f : Str) (v : D) : List (Str × D) → List (Str × D)
  | [] => [(f, v)]
  | (g, x) :: r => if g = f then (g, v) :: r else (g, x) :: putFd f v r
theorem putF_rel {K : PySem.W.Frag} {μ : List Addr} {H : Hp} {f : Str} {d : D} {v : V} (rd : Rep K μ H d v) : ∀ {kvs : List (Str × D)} {kws : List (Str × V)}, kvs.map (·.1) = kws.map (·.1) → Reps K μ H (kvs.map (·.2)) (kws.map (·.2)) →
    (putFd f d kvs).map (·.1) = (putF f v kws).map (·.1) ∧ Reps K μ H ((putFd f d kvs).map (·.2)) ((putF f v kws).map (·.2))
  | [], [], _, _ => ⟨rfl, Reps.cons rd Reps.nil⟩
  | [], _ :: _, e, _ => by simp at e
  | _ :: _, [], e, _ => by simp at e
  | (k, d0) :: kvs, (k2, v0) :: kws, e, r => by
    simp only [List.map_cons, List.cons.injEq] at e
    obtain ⟨rfl, e⟩ := e
    simp only [List.map_cons, Reps] at r
    obtain ⟨v1, ws, e2, r1, r2⟩ := r
    simp only [List.cons.injEq] at e2
    obtain ⟨rfl, rfl⟩ := e2
    unfold putFd putF
    by_cases hk : k = f
    · rw [if_pos hk, if_pos hk]
      exact ⟨by simp [e], Reps.cons rd r2⟩
    · rw [if_neg hk, if_neg hk]
      obtain ⟨q1, q2⟩ := putF_rel rd e r2
      exact ⟨by rw [List.map_cons, List.map_cons, q1], Reps.cons r1 q2⟩
def sFldS (C : List (Str × List Str)) (mo mv : EM D) (f : Str) : SM := fun env ah => (mv env ah).thenS env fun v ah1 => (mo env ah1).thenS env fun d ah2 => match d with
  | .ref n => match ah2[n]? with
    | some (.ins c kvs) => match C.lookup c with
      | some fs => if f ∈ fs ∧ kvs.length < 1000 then .nx env (ah2.set n (.ins c (putFd f v kvs))) else .stuck
      | none => .stuck
    | _ => .stuck
  | _ => .stuck
theorem pz_fld {C : List (Str × List Str)} {f : Str} {o value : Expr} {mo mv : EM D} {pos' : Pos} (T : ∀ q ∈ C, ClsT X.K q.1 q.2) (ho : PD X W o mo) (hv : PD X W value mv) (hs : swapsWith value (some (.Attribute o f pos')) pos.line X.env = pure false := by rfl) : PZ X W (.Assign [.Attribute o f pos'] value pos) (sFldS C mo mv f) := by
  refine PS.weak (ps_fld ho hv hs) fun D σ H z => ?_
  obtain ⟨μ, env, ah, hE, hS, hp⟩ := z
  refine ⟨μ, env, ah, hE, hS, PostS.bind hp hE fun v ah1 μ1 y H1 x1 s1 r1 p1 => ?_⟩
  refine ⟨μ1, env, ah1, hE.ext x1, s1, PostS.bind p1 (hE.ext x1) fun d ah2 μ2 u H2 x2 s2 r2 p2 => ?_⟩
  cases d with
  | ref n =>
    obtain ⟨a, ea, rfl⟩ := d_ref (show Rep X.K μ2 H2 (.ref n) u from r2)
    dsimp only at p2
    split at p2
    · rename_i c kvs hn
      split at p2
      · rename_i fs hc
        split at p2
        · rename_i hf
          obtain ⟨dx, fws, e0, ek, rr⟩ := s2.ok n a _ ea hn
          have t := T _ (look_mem hc)
          have hn0 : n ≠ 0 := fun z => by
            have := (s2.ro0 n _ hn).mpr z
            cases this
          have mu : Mut (H2 a) := by rw [e0]; trivial
          have hlen : fws.length = kvs.length := by simpa using (congrArg List.length ek).symm
          refine ⟨a, gA X.K c, dx, fws, rfl, e0, t.cl, t.no f hf.1, by rw [hlen]; exact hf.2, ?_⟩
          have S3 := s2.put (u := .ins (gA X.K c) dx (putF f y fws)) (o' := .ins c (putFd f v kvs)) ea hn rfl rfl fun tx => by
            have rv : Rep X.K μ2 (upd H2 a (.ins (gA X.K c) dx (putF f y fws))) v y := Rep.mono (List.prefix_refl _) tx _ _ (Rep.ext r1 x2)
            obtain ⟨q1, q2⟩ := putF_rel (f := f) rv ek (Reps.mono (List.prefix_refl _) tx _ _ rr)
            exact ⟨dx, _, upd_same, q1, q2⟩
          exact p2 μ2 σ _ (Ext.put ea hn0 mu) S3 (((hE.ext x1).ext x2).ext (Ext.put ea hn0 mu))
        · exact p2.elim
      · exact p2.elim
    · exact p2.elim
  | _ => exact p2.elim
end
end HA
namespace HA
open PySem PySem.Spec PyProof.Rows L2
def mkEnd (n : Nat) (r : Res D) : Res D := r.bind fun d ah => if d = .non then .ok (.ref n) ah else .stuck
section
variable {X : Cx} {W : WX} {k n : Nat} {C : Str} {f : Addr} {fd : FuncData} {ps ks : List Str} {mi : List D → AH → Res D} {g : {α : Type} → List α → List α → List α} {e : Expr} {es : List Expr} {kws : List Keyword} {ml mk : EM (List D)} {p pos : Pos}
theorem run_mkG {pins : List (Addr × Obj)} {σ : L2.St} {H : Hp} {s : Shared} {Q : VK} {us ws : List Value} {vs zs : List V} {μ : List Addr} {ds fs : List D} {ah : AH} (M : Mk X.K (gA X.K C) f) (F : FnG X.prog X.w X.K X.mg X.base k f fd ps mi) (hr : Rm (k + 1) X.A) (hb : KB X.K fd ps ks (n + 1) g) (tk : Takes X W)
    (I : Inv X pins σ H s) (r : Vals vs us) (rz : Vals zs ws) (l1 : vs.length = n) (l2 : zs.length = ks.length) (d1 : ds.length = n) (d2 : fs.length = ks.length) (S : Sim X.K μ H ah) (rd : Reps X.K μ H ds vs) (rf : Reps X.K μ H fs zs)
    (hp : Post X.K (RD X.K) (fun c d H' => W c d σ H') μ H Q (mkEnd ah.length (mi (g (.ref ah.length :: ds) fs) (ah ++ [.ins C []])))) : wpAny (model X.prog X.w) X.A (call (.ref (gA X.K C)) us (ks.zip ws)) (EP X pins σ Q) X.xe s := by
  let x : Addr := s.heap.objs.size + 1
  let dx : Addr := s.heap.objs.size
  have nx : H x = none := I.hok.fresh (Nat.le_succ _)
  have nd : H dx = none := I.hok.fresh (Nat.le_refl _)
  have ne : x ≠ dx := Nat.succ_ne_self _
  have nx2 : upd H dx (.own x) x = none := by rw [upd_ne ne]; exact nx
  have I2 := Inv.made (C := gA X.K C) I
  have x1 : Ext X.K μ H (μ ++ [x]) (upd (upd H dx (.own x)) x (.ins (gA X.K C) dx [])) := (Ext.other nd).trans (Ext.ours nx2 (by rw [S.len]; exact S.pos))
  have s1 : Sim X.K (μ ++ [x]) (upd (upd H dx (.own x)) x (.ins (gA X.K C) dx [])) (ah ++ [.ins C []]) := (S.other nd).new nx2 rfl ⟨dx, [], upd_same, rfl, Reps.nil⟩
  have r1 : Vals (V.ref x :: vs) (Value.ref x :: us) := .cons rfl r
  have n1 : (V.ref x :: vs).length = n + 1 := by rw [List.length_cons, l1]
  have n2 : (Value.ref x :: us).length = n + 1 := by rw [List.length_cons, ← r.length, l1]
  have rr : Reps X.K (μ ++ [x]) (upd (upd H dx (.own x)) x (.ins (gA X.K C) dx [])) (.ref ah.length :: ds) (V.ref x :: vs) := Reps.cons (by
    simp only [Rep]
    exact ⟨x, by rw [← S.len]; simp, rfl⟩) (rd.ext x1)
  have po : Post X.K (RD X.K) (fun c d H' => WE W σ c d H') (μ ++ [x]) (upd (upd H dx (.own x)) x (.ins (gA X.K C) dx [])) (fun v H2 => v = .non ∧ Q (.ref x) H2) (mi (g (.ref ah.length :: ds) fs) (ah ++ [.ins C []])) := by
    unfold mkEnd at hp
    cases q : mi (g (.ref ah.length :: ds) fs) (ah ++ [.ins C []]) with
    | ok d ah2 =>
      rw [q, Res.bind_ok] at hp
      split at hp
      · rename_i hd
        subst hd
        intro μ' v H' x2 s2 r2
        refine ⟨d_non (show Rep X.K μ' H' .non v from r2), hp μ' (.ref x) H' (x1.trans x2) s2 ?_⟩
        show Rep X.K μ' H' (.ref ah.length) (.ref x)
        simp only [Rep]
        exact ⟨x, pre_get x2.pre (by rw [← S.len]; simp), rfl⟩
      · exact hp.elim
    | exn c fs' ah2 => rw [q] at hp; exact fun μ' H' od x2 => hp μ' H' od (x1.trans x2)
    | stuck => rw [q] at hp; exact hp.elim
  have room : Rm k (X.A.under (.builtin "type.__call__" ⟨.ref (gA X.K C) :: us, ks.zip ws⟩)) := ⟨hr.room.make (gA X.K C) us (ks.zip ws), hr.gd⟩
  refine wpAny_call (make_map (f := f) I.kIn M.makes M.init (beq_iff_eq.mp M.fn) (codeAny_mono (F.run _ X.stack _ _ ⟨Value.ref x :: us, ks.zip ws⟩ (g (Value.ref x :: us) ws) (g (V.ref x :: vs) zs) _ (WE W σ) (μ ++ [x]) _ _ room
    (I2.env0.make (gA X.K C) us (ks.zip ws)) (hb.to _ (Value.ref x :: us) ws I2.kIn n2 (rz.length.symm.trans l2)) (hb.rel n1 l2 r1 rz) (hb.len (V.ref x :: vs) zs n1 l2) s1 (hb.rep (by rw [List.length_cons, d1]) d2 rr (rf.ext x1)) po) fun rs s' hq' => ?_))
  cases rs with
  | error u => exact passF tk σ pins _ _ u s' I2 hq'
  | ok fl =>
    cases fl with
    | ret u =>
      obtain ⟨v, H', I3, rv, ev, q3⟩ := I2.after hq'
      subst ev
      exact ⟨rv, ⟨V.ref x, H', I3, rfl, q3⟩⟩
    | next => exact hq'.elim
    | brk => exact hq'.elim
    | cont => exact hq'.elim
def eMk (C : Str) (mi : List D → AH → Res D) (g : List D → List D → List D) (ml mk : EM (List D)) : EM D := e2 ml mk fun ds fs ah => mkEnd ah.length (mi (g (.ref ah.length :: ds) fs) (ah ++ [.ins C []]))
theorem pd_mkK (M : Mk X.K (gA X.K C) f) (F : FnG X.prog X.w X.K X.mg X.base k f fd ps mi) (hr : Rm (k + 1) X.A) (hg : Gl X C) (hm : X.mg C = some (.ref (gA X.K C))) (hb : KB X.K fd ps ks 1 g) (tk : Takes X W) (hkw : PKs X W kws mk) (hn2 : Many ks.length mk)
    (hall : (backToKw pos (keywordEach kws X.env)).all (·.1.isSome) = true := by rfl) (hks : (backToKw pos (keywordEach kws X.env)).filterMap (·.1) = ks := by rfl) (hdb : (C == ("__debug__" : Str)) = false := by decide)
    (hpl : ((backTo pos (starEach [] X.env)).any (·.1) || (backToKw pos (keywordEach kws X.env)).any (·.1.isNone)) = false := by rfl) : PD X W (.Call (.Name C p) [] kws pos) (eMk C mi (fun a b => g a b) aNil mk) := by
  refine ⟨fun pins s σ H Q I h => ?_⟩
  obtain ⟨μ, env, ah, hE, hs, hp⟩ := h
  have hp : Post X.K (RD X.K) (fun c d H' => W c d σ H') μ H Q ((mk env ah).bind fun fs ah1 => mkEnd ah1.length (mi (g (.ref ah1.length :: []) fs) (ah1 ++ [.ins C []]))) := hp
  refine wpAny_Call_Name_kw (ld_glob I hg hm ?_ hdb)
  refine PySem.W.callWith_KW0 (h₀ := X.base) I.ok.mod.kin M.kp hall (thn (hkw.pk.run pos pins s σ H (fun zs H1 => zs.length = ks.length ∧ ∃ μ1 ah1 fs, fs.length = ks.length ∧ Sim X.K μ1 H1 ah1 ∧ Reps X.K μ1 H1 fs zs ∧ Post X.K (RD X.K) (fun c d H' => W c d σ H') μ1 H1 Q (mkEnd ah1.length (mi (g (.ref ah1.length :: []) fs) (ah1 ++ [.ins C []])))) I
    ⟨μ, env, ah, hE, hs, Post.many hn2 (hp.bind fun fs ah1 μ1 zs H1 e1 s1 r1 p1 hl => ⟨hl, μ1, ah1, fs, by rw [Reps.length (show Reps X.K μ1 H1 fs zs from r1)]; exact hl, s1, r1, p1⟩)⟩) fun ws s1 hz => ?_) hpl
  obtain ⟨zs, H1, I1, rz, hl, μ1, ah1, fs, hf, s1', rf, p1⟩ := hz
  refine ⟨I1.kIn, ?_⟩
  rw [hks]
  exact run_mkG (us := []) (vs := []) (ds := []) M F hr hb tk I1 .nil rz rfl hl rfl hf s1' Reps.nil rf p1
end
end HA
namespace HZ
open PySem PySem.Spec PyProof.Rows L2
set_option maxHeartbeats 4000000 in
def Itn (K : PySem.W.Frag) (N : Nat) (p : Bool × Addr) : It :=
  ⟨fun i H => i < N ∧ ∃ (xs : List V) (x : V), PtAt K H p xs ∧ xs[i]? = some x, fun i H v H' => ∃ T x, v = .ref T ∧ H T = none ∧ H' = upd H T (.tup [.int (i : Nat), x]) ∧ ∀ xs, PtAt K H p xs → xs[i]? = some x,
    fun i H => N ≤ i ∧ ∃ xs : List V, PtAt K H p xs ∧ xs.length = N⟩
end HZ
namespace HA
open PySem PySem.Spec PyProof.Rows L2
def numD : Nat → List D → List D
  | _, [] => []
  | i, d :: ds => .tup [.int i, d] :: numD (i + 1) ds
def iEnumD (d : D) (ah : AH) : Res Itm := match partOf d ah with
  | some (xs, g) => .ok ⟨numD 0 xs, g⟩ ah
  | none => .stuck
section
variable {X : Cx} {W : WX} {e : Expr} {m : EM D} {p pos tpos : Pos} {elts : List Expr} {kk : Nat}
end
def strIx (a b : Str) : Option Nat := (Builtin.Str.occurrences a b 0 a.length 1).head?
def mIndexS : D → List D → AH → Res D
  | .str a, [.str b], ah => match strIx a b with
    | some i => .ok (.int i) ah
    | none => .stuck
  | _, _, _ => .stuck
def isStrD : D → Bool
  | .str _ => true
  | _ => false
def eMs (mo : EM D) (ml : EM (List D)) (f : D → List D → AH → Res D) : EM D := fun env ah => (mo env ah).bind fun d ah1 => if isStrD d = true then (ml env ah1).bind fun ds ah2 => f d ds ah2 else .stuck
section
variable {X : Cx} {W : WX} {e o : Expr} {es : List Expr} {mo : EM D} {ml : EM (List D)} {name : Str} {apos cpos : Pos} {id : String} {f : D → List D → AH → Res D}
theorem str_ty {K : PySem.W.Frag} {μ : List Addr} {H : Hp} {d : D} {v : V} (r : Rep K μ H d v) (h : isStrD d = true) : tyV K "str" v H := by
  cases d with
  | str x => rw [d_str r]; rfl
  | _ => cases h
theorem pd_ms (pa : PlainAttrs "str") (slot : Slot "str" name id) (hty : typeOf (.builtin id) = pure (.type "method_descriptor")) (hm : MtD X id f) (ho : PD X W o mo) (ha : PAs X W (e :: es) ml)
    (hbase : attributeBase o name X.env (eval o X.env) = eval o X.env := by rfl)
    (hfew : ((backTo cpos (starEach (e :: es) X.env)).all (fun x => !x.1) && (backToKw cpos (keywordEach [] X.env)).all (fun x => x.1.isSome) && decide ((e :: es).length + ([] : List Keyword).length + (if ([] : List Keyword).isEmpty then 0 else 1) < 30)) = true := by rfl)
    (hline : (apos.endLine == cpos.line) = true := by rfl) (hs : starEach (e :: es) X.env = (false, eval e X.env) :: starEach es X.env := by rfl) (hplain : (backTo cpos (starEach es X.env)).any (·.1) = false := by rfl) :
    PD X W (.Call (.Attribute o name apos) (e :: es) [] cpos) (eMs mo ml f) := by
  refine PE.weak (pe_bmσ pa slot hty (fun σ => hm (fun c d H' => W c d σ H')) ho ha hbase hfew hline hs hplain) fun σ H Q ⟨μ, env, ah, he, hs, hp⟩ => ?_
  refine ⟨μ, env, ah, he, hs, hp.bind fun d ah1 μ1 x H1 e1 s1 r1 p1 => ?_⟩
  split at p1
  · rename_i hi
    refine ⟨str_ty (show Rep X.K μ1 H1 d x from r1) hi, tG_next he e1 s1 (p1.bind fun ds ah2 μ2 vs H2 e2 s2 r2 p2 => ?_)⟩
    exact ⟨μ2, ah2, d, ds, s2, Rep.ext (show Rep X.K μ1 H1 d x from r1) e2, r2, p2⟩
  · exact p1.elim
end
end HA
namespace HA
open PySem PySem.Spec PyProof.Rows L2
section
variable {P : Program} {w : World} {K : PySem.W.Frag} {h : Heap} {mg : Str → Option Value}
structure TFk (K : PySem.W.Frag) (mg : Str → Option Value) (x : Str) (st : Stmt) where
  a : Addr
  fd : FuncData
  F : Fun K x x st a fd
  g : mg x = some (.ref a)
  k : PySem.W.keepIn K (.ref a) = true
  ga : gA K x = a
def tfk_mk (X : K.In h) (G : h.Ns mainGlobals mg) {x : Str} {st : Stmt} {f : Addr} {oc : Value} {od an : Option Addr} {osl : Array (Option Value)} {kV doc pm cdv ct : Value}
    (l : K.lookup f = some ⟨oc, od, .func (PySem.W.fnOf x x (defArgs st) (defBody st) (defScope st) .none kV doc pm an cdv ct), osl⟩) (n : PySem.W.nsIn K mainGlobals x = some (some (.ref f)))
    (c : PySem.W.codeIn K cdv x = true) (k : PySem.W.keepIn K (.ref f) = true) : TFk K mg x st := ⟨f, _, fun_mk l c k, PySem.W.mg_of X G n, k, gA_of n⟩
structure CT (K : PySem.W.Frag) (mg : Str → Option Value) (C q : Str) (st : Stmt) where
  a : Addr
  fd : FuncData
  F : Fun K "__init__" q st a fd
  M : Mk K (gA K C) a
  g : mg C = some (.ref (gA K C))
def ct_mk (X : K.In h) (G : h.Ns mainGlobals mg) {C q : Str} {st : Stmt} {c f : Addr} {oc : Value} {od an : Option Addr} {osl : Array (Option Value)} {kV doc pm cdv ct : Value}
    (l : K.lookup f = some ⟨oc, od, .func (PySem.W.fnOf "__init__" q (defArgs st) (defBody st) (defScope st) .none kV doc pm an cdv ct), osl⟩) (n : PySem.W.nsIn K mainGlobals C = some (some (.ref c)))
    (cd : PySem.W.codeIn K cdv q = true) (k : PySem.W.keepIn K (.ref f) = true) (m1 : PySem.W.makesIn K c = true) (m2 : PySem.W.findIn K (.ref c) "__init__" = some (some (.ref f))) (m3 : PySem.W.isFn K (.ref f) = true) (m4 : PySem.W.keepIn K (.ref c) = true) : CT K mg C q st :=
  ⟨f, _, fun_mk l cd k, by rw [gA_of n]; exact ⟨m1, m2, m3, m4⟩, by rw [gA_of n]; exact PySem.W.mg_of X G n⟩
theorem clsT_mk {C : Str} {c : Addr} {fs : List Str} (n : PySem.W.nsIn K mainGlobals C = some (some (.ref c))) (a1 : PySem.W.plainGet K c Str.empty = true) (a2 : PySem.W.hasDictIn K c = true) (a3 : PySem.W.plainOver K c = true)
    (a4 : PySem.W.findIn K (.ref c) "__setattr__" = some (some (.builtin "object.__setattr__"))) (no : ∀ f ∈ fs, PySem.W.findIn K (.ref c) f = some none) : ClsT K C fs := by
  refine ⟨?_, fun f hf => ?_⟩
  · rw [gA_of n]; exact ⟨a1, a2, a3, a4⟩
  · rw [gA_of n]; exact no f hf
theorem oexC_mk {C : Addr} {nm q : Str} {N : Addr} {bs bm : List Value} {sn : List Str} {sub : List Value} {ab : Bool} {col : Option Bool} {dd : Option Addr} {m0 m1 m2 m3 m5 : Option Value}
    (l : K.lookup C = some (excClassObj nm q C N bs bm true sn sub ab col dd m0 m1 m2 m3 m5 "ValueError.__new__")) (b : PySem.HandSPX.refsVE bm = true) (sa : PySem.W.findIn K (.ref C) "__setattr__" = some (some (.builtin "object.__setattr__")))
    (ec : PySem.W.subIn K (.ref C) (.type "BaseException") = some true) (tc : PySem.W.typeIn K (.ref C) = some (.type "type")) (kc : PySem.W.keepIn K (.ref C) = true) : OexC K C := ⟨⟨nm, q, N, bs, bm, sn, sub, ab, col, dd, m0, m1, m2, m3, m5, l, b⟩, sa, ec, tc, kc⟩
theorem xt_mk (X : K.In h) (G : h.Ns mainGlobals mg) {x f y qual : Str} {C D fI : Addr} {fd : FuncData} {st : Stmt} {txt : Str} {j : Nat} {p1 p2 p3 p4 p5 p6 p7 p8 p9 p10 : Pos} (n : PySem.W.nsIn K mainGlobals x = some (some (.ref C))) (O : OexC K C) (nf : PySem.W.findIn K (.ref C) f = some none)
    (i1 : PySem.W.findIn K (.ref C) "__init__" = some (some (.ref fI))) (i2 : PySem.W.typeIn K (.ref fI) = some (.type "function")) (F : Fun K "__init__" qual st fI fd) (S : FnScope [("self" : Str), f] [("self" : Str), f] (defScope st))
    (hb : ∀ (kV doc pm : Value) (an : Option Addr) (cdv ct : Value) (us : List Value), us.length = 2 → bindArgs (PySem.W.fnOf "__init__" qual (defArgs st) (defBody st) (defScope st) .none kV doc pm an cdv ct) ⟨us, []⟩ = pure ([("self" : Str), f].zip us))
    (nD : PySem.W.nsIn K mainGlobals y = some (some (.ref D))) (U : UpC K D) (h1 : (y == ("__debug__" : Str)) = false) (h2 : (f == ("__debug__" : Str)) = false) (h3 : (f == ("__classdict__" : Str)) = false)
    (s1 : (defScope st).names.lookup ("self" : Str) = some NameKind.local) (s2 : (defScope st).names.lookup f = some NameKind.local) (s3 : (defScope st).names.lookup y = some NameKind.globalImplicit)
    (hc : ∀ env, UpAsk (.Name y p1) (.Name "self" p3) [.Constant (.str txt) j p4] p2 p5 env)
    (hbd : defBody st = [.Expr (.Call (.Attribute (.Name y p1) "__init__" p2) [.Name "self" p3, .Constant (.str txt) j p4] [] p5) p6, .Assign [.Attribute (.Name "self" p7) f p8] (.Name f p9) p10]) : XT K mg x f := by
  refine ⟨?_, ?_, ?_, fI, D, fd, y, qual, st, txt, j, p1, p2, p3, p4, p5, p6, p7, p8, p9, p10, ?_, i2, F, S, F.binds hb, U, PySem.W.mg_of X G nD, h1, h2, h3, s1, s2, s3, hc, hbd⟩
  · rw [gA_of n]; exact PySem.W.mg_of X G n
  · rw [gA_of n]; exact O
  · rw [gA_of n]; exact nf
  · rw [gA_of n]; exact i1
theorem glo_mk (X : K.In h) (G : h.Ns mainGlobals mg) {x : Str} {c : Addr} (n : PySem.W.nsIn K mainGlobals x = some (some (.ref c))) : mg x = some (.ref (gA K x)) := by rw [gA_of n]; exact PySem.W.mg_of X G n
end
end HA
namespace HA
open PySem PySem.Spec PyProof.Rows L2
def gUnlD (n : Nat) (u : List D → HA.Env → AH → Option HA.Env) : TMX := fun d env ah => match d with
  | .ref m => match ah[m]? with
    | some (.lst ds) => if ds.length = n then (u ds env ah).map fun env1 => (env1, ah) else none
    | _ => none
  | _ => none
end HA
namespace HA
open PySem PySem.Spec PyProof.Rows L2 RT
section
variable {prog : Program} {w : World} {A : Around} {E : Value → Shared → Prop} {s : Shared} {R : Result → Shared → Prop}
end
section
variable {X : Cx} {W : WX} {pos : Pos}
def gStarL (K : PySem.W.Frag) (n : Nat) (t : TGs) : TG := fun v σ H Q => ∃ a xs, v = .ref a ∧ SqL K H a xs ∧ n ≤ xs.length ∧ ∀ p, H p = none → t (xs.take n ++ [.ref p]) σ (upd H p (.lst (xs.drop n))) Q
end
end HA
namespace HA
open PySem PySem.Spec PyProof.Rows L2
def gStarLD (n : Nat) (u : List D → HA.Env → AH → Option HA.Env) : TMX := fun d env ah => match d with
  | .ref m => match ah[m]? with
    | some (.lst ds) => if n ≤ ds.length then (u (ds.take n ++ [.ref ah.length]) env (ah ++ [.lst (ds.drop n)])).map fun env1 => (env1, ah ++ [.lst (ds.drop n)]) else none
    | _ => none
  | _ => none
section
variable {X : Cx} {W : WX} {e tg : Expr} {es es' : List Expr} {m : EM D} {pos : Pos} {ts : List Nat} {n : Nat}
end
end HA
namespace HA
open PySem PySem.Spec PyProof.Rows L2
def chars (x : Str) : List D := x.cps.toList.map fun c => .str ⟨#[c]⟩
def iStrD (d : D) (ah : AH) : Res Itm := match d with
  | .str x => .ok ⟨chars x, []⟩ ah
  | _ => .stuck
end HA
namespace HA
open PySem PySem.Spec PyProof.Rows L2
section
variable {X : Cx} {W : WX} {k : Nat}
def mExtend (d : D) (ds : List D) (ah : AH) : Res D := match d, ds with
  | .ref n, [.ref m] => match ah[n]?, ah[m]? with
    | some (.lst xs), some (.lst zs) => if xs.length + zs.length ≤ line then .ok .non (ah.set n (.lst (xs ++ zs))) else .stuck
    | _, _ => .stuck
  | _, _ => .stuck
theorem md_extend : MtD X "list.extend" mExtend := fun W => by
  refine MtR.imp mt_extend fun x vs H Q ⟨μ, ah, d, ds, S, r1, r2, hp⟩ => ?_
  unfold mExtend at hp
  split at hp
  · rename_i n m
    obtain ⟨a, ea, rfl⟩ := d_ref r1
    obtain ⟨w, rfl, ry⟩ := reps1 r2
    obtain ⟨b, eb, rfl⟩ := d_ref ry
    split at hp
    · rename_i xs zs q q2
      split at hp
      · rename_i hl
        obtain ⟨vs, h1, r⟩ := S.ok n a _ ea q
        obtain ⟨ws, h2, r'⟩ := S.ok m b _ eb q2
        exact ⟨a, b, vs, ws, rfl, rfl, h1, h2, line_le (by rw [← r.length, ← r'.length]; exact hl), put_lst S ea q (r.append r') r_non' hp⟩
      · exact hp.elim
    · exact hp.elim
  · exact hp.elim
def mSplit : D → List D → AH → Res D
  | .str a, [.str b], ah => if b.length ≠ 0 ∧ a.length + 2 ≤ line then .ok (.ref ah.length) (ah ++ [.lst ((Txt.split a b).map D.str)]) else .stuck
  | _, _, _ => .stuck
def mUpper : D → List D → AH → Res D
  | .str a, [], ah => if a.length ≤ 5592405 then .ok (.str (Txt.upper a)) ah else .stuck
  | _, _, _ => .stuck
def itemsOf (d : D) (ah : AH) : Option (List D) := match d with
  | .tup ds => some ds
  | .ref n => listAt ah n
  | _ => none
theorem items_at {μ : List Addr} {H : Hp} {ah : AH} {d : D} {v : V} {ds : List D} (S : Sim X.K μ H ah) (r : Rep X.K μ H d v) (e : itemsOf d ah = some ds) : ∃ p vs, v = .ref p ∧ (SqL X.K H p vs ∨ SqT X.K H p vs) ∧ Reps X.K μ H ds vs := by
  cases d with
  | tup es =>
    cases e
    obtain ⟨a, vs, rfl, q, r2⟩ := d_tup r
    exact ⟨a, vs, rfl, .inr q, r2⟩
  | ref n =>
    obtain ⟨a, ea, rfl⟩ := d_ref r
    obtain ⟨b, vs, eb, q, r2⟩ := S.list e
    rw [ea] at eb; cases eb
    exact ⟨a, vs, rfl, .inl q, r2⟩
  | _ => cases e
def mJoin : D → List D → AH → Res D
  | .str a, [d], ah => match (itemsOf d ah).bind (optAll dStr) with
    | some ys => if (ys.map (·.length)).sum + ys.length * a.length ≤ 16777216 then .ok (.str (Txt.join a ys)) ah else .stuck
    | none => .stuck
  | _, _, _ => .stuck
theorem md_join : MtD X "str.join" mJoin := fun W => by
  refine MtR.imp mt_join fun x vs H Q ⟨μ, ah, d, ds, S, r1, r2, hp⟩ => ?_
  unfold mJoin at hp
  split at hp
  · rename_i a d
    obtain ⟨v, rfl, rv⟩ := reps1 r2
    rw [d_str r1]
    split at hp
    · rename_i ys e
      split at hp
      · rename_i h
        obtain ⟨es, e1, e2⟩ := Option.bind_eq_some_iff.mp e
        obtain ⟨p, vs, rfl, q, r⟩ := items_at S rv e1
        rw [strs_of e2] at r
        rw [r.strs] at q
        exact ⟨a, p, ys, rfl, rfl, q, h, hp.ok1 S (by show Rep _ _ _ _ _; simp only [Rep])⟩
      · exact hp.elim
    · exact hp.elim
  · exact hp.elim
variable {e o f : Expr} {es : List Expr} {mo mk mx : EM D} {ml : EM (List D)} {name : Str} {apos cpos : Pos} {id : String} {g : D → List D → AH → Res D}
def sMaxL (ds : List D) (ah : AH) : Res D := match optAll dInt ds with
  | some (n :: ns) => .ok (.int ((n :: ns).foldl max n)) ah
  | _ => .stuck
theorem foldl_max : ∀ (ns : List Int) (a m : Int), (m = a ∨ m ∈ ns) → a ≤ m → (∀ y ∈ ns, y ≤ m) → ns.foldl max a = m
  | [], a, m, h, _, _ => by rcases h with h | h; exact h.symm; cases h
  | n :: ns, a, m, h, ha, hn => by
    rw [List.foldl_cons]
    have h1 := hn n List.mem_cons_self
    refine foldl_max ns _ m ?_ (by omega) fun y hy => hn y (List.mem_cons_of_mem _ hy)
    rcases h with h | h
    · left; omega
    · rcases List.mem_cons.mp h with h | h
      · left; omega
      · exact .inr h
def isDictD (d : D) (ah : AH) : Bool := match d with
  | .ref n => match ah[n]? with
    | some (.dK _) => true
    | _ => false
  | _ => false
def oDGet (d kd z : D) (ah : AH) : Res D := match d, dKey kd with
  | .ref n, some kk => match ah[n]? with
    | some (.dK kvs) => .ok ((valD kvs kk).getD z) ah
    | _ => .stuck
  | _, _ => .stuck
def eDGet1 (mo mk : EM D) : EM D := fun env ah => (mo env ah).bind fun d ah1 => if isDictD d ah1 = true then (mk env ah1).bind fun kd ah2 => oDGet d kd .non ah2 else .stuck
def eDGet2 (mo mk mx : EM D) : EM D := fun env ah => (mo env ah).bind fun d ah1 => if isDictD d ah1 = true then (mk env ah1).bind fun kd ah2 => (mx env ah2).bind fun z ah3 => oDGet d kd z ah3 else .stuck
end
end HA
namespace HA
open PySem PySem.Spec PyProof.Rows L2
theorem par_sw3 {env : PySem.Env} {x y z : Str} {a b c : Expr} {px py pz pt pt2 : Pos} {kt k2 : Nat} (hb : env.blockKind = .function) (hx : (env.kindOf x == some .local) = true) (hy : (env.kindOf y == some .local) = true) (hz : (env.kindOf z == some .local) = true) (hl : (py.line == px.line) = true) (hl2 : (pz.line == px.line) = true)
    (hd : ([x, y, z] : List Str).eraseDups.length = 3) (h0 : ([a, b, c].any fun | .Starred .. => true | _ => false) = false) (h1 : [a, b, c].all (foldedForSure 8) = false) (h2 : [a, b, c].all (constantsAlone 8) = false) :
    swappedStores [.Tuple [.Name x px, .Name y py, .Name z pz] kt pt] (.Tuple [a, b, c] k2 pt2) env = pure (some [x, y, z]) := by
  have lx : (px.line == px.line) = true := by simp
  have ln : ([Expr.Name x px, Expr.Name y py, Expr.Name z pz].filterMap fun
      | .Name id pos => if env.kindOf id == some .local && pos.line == px.line then some id else none
      | _ => none) = [x, y, z] := by
    simp only [List.filterMap_cons, List.filterMap_nil, hx, hy, hz, hl, hl2, lx, Bool.and_self, if_true]
  unfold swappedStores
  simp only [hb]
  refine (if_neg (by simp)).trans ?_
  refine (if_neg (fun e => Bool.false_ne_true (h0.symm.trans e))).trans ?_
  generalize hF : List.filterMap _ [Expr.Name x px, Expr.Name y py, Expr.Name z pz] = F
  obtain rfl : F = [x, y, z] := hF.symm.trans ln
  refine (if_neg (by rw [hd]; simp)).trans ?_
  refine (if_neg (by rw [h1]; exact Bool.false_ne_true)).trans ?_
  rw [h2]
  rfl
def sPar3 (i j l : Nat) (ml : EM (List D)) : SM := fun env ah => (ml env ah).thenS env fun ds ah1 => match ds with
  | [x, y, z] => .nx (((env.set i (some x)).set j (some y)).set l (some z)) ah1
  | _ => .stuck
theorem reps3 {K : PySem.W.Frag} {μ : List Addr} {H : Hp} {a b c : D} {vs : List V} (h : Reps K μ H [a, b, c] vs) : ∃ u v w, vs = [u, v, w] ∧ Rep K μ H a u ∧ Rep K μ H b v ∧ Rep K μ H c w := by
  simp only [Reps] at h
  obtain ⟨u, us, rfl, h1, v, vs, rfl, h2, w, ws, rfl, h3, rfl⟩ := h
  exact ⟨u, v, w, rfl, h1, h2, h3⟩
theorem pz_par3W {X : Cx} {W : WX} {ml : EM (List D)} {pos : Pos} {i j l : Nat} {x y z : Str} {a b c : Expr} {px py pz pt pt2 : Pos} {kt k2 : Nat} (hc : X.calm = true) (hN : X.N.Nodup) (hi : X.N[i]? = some x) (hj : X.N[j]? = some y) (hl : X.N[l]? = some z) (hij : i ≠ j) (hil : i ≠ l) (hjl : j ≠ l) (hx : X.env.scope.names.lookup x = some .local) (hy : X.env.scope.names.lookup y = some .local) (hz : X.env.scope.names.lookup z = some .local) (ha : PAs X W [a, b, c] ml)
    (hb : X.env.blockKind = .function) (l1 : (py.line == px.line) = true) (l2 : (pz.line == px.line) = true)
    (hd : ([x, y, z] : List Str).eraseDups.length = 3) (h0 : ([a, b, c].any fun | .Starred .. => true | _ => false) = false) (h1 : [a, b, c].all (foldedForSure 8) = false) (h2 : [a, b, c].all (constantsAlone 8) = false) (hs : swapsWithSole [.Tuple [.Name x px, .Name y py, .Name z pz] kt pt] (.Tuple [a, b, c] k2 pt2) pos.line X.env = pure false := by rfl) :
    PZ X W (.Assign [.Tuple [.Name x px, .Name y py, .Name z pz] kt pt] (.Tuple [a, b, c] k2 pt2) pos) (sPar3 i j l ml) := by
  refine PS.weak (ps_par3 hc hN hi hj hl hij hil hjl hx hy hz ha (par_sw3 hb (by rw [show X.env.kindOf x = some .local from hx]; rfl) (by rw [show X.env.kindOf y = some .local from hy]; rfl) (by rw [show X.env.kindOf z = some .local from hz]; rfl) l1 l2 hd h0 h1 h2) hs) fun D σ H ⟨μ, env, ah, he, hs, hp⟩ => ?_
  refine ⟨μ, env, ah, he, hs, PostS.bind hp he fun ds ah1 μ1 vs H1 e1 s1 r1 p1 => ?_⟩
  split at p1
  · obtain ⟨u, v, w, rfl, ra, rb, rc⟩ := reps3 (show Reps X.K μ1 H1 _ vs from r1)
    exact ⟨u, v, w, rfl, post_next p1 s1 ((((he.ext e1).set ra i).set rb j).set rc l)⟩
  · exact p1.elim
end HA
namespace HA
open PySem PySem.Spec PyProof.Rows L2
def keyStr : Value → Option Str
  | .str x _ => some x
  | _ => none
structure CDAll (K : PySem.W.Frag) (w : World) (mg : Str → Option Value) (x : Str) (t : CTab) : Prop where
  ok : ∃ p es n, mg x = some (.ref p) ∧ K.lookup p = some ⟨.type "dict", none, .dict es n, #[]⟩ ∧ (p == sysModules) = false ∧ PySem.W.KeysLit w.params es.toList ∧ es.toList.map (fun e => keyStr e.key) = t.map (fun q => some q.1) ∧ ∀ q ∈ t, ∃ u, PySem.W.nsIn K p q.1 = some (some u) ∧ CR K u q.2
section
variable {X : Cx} {W : WX} {k : Nat} {o e f : Expr} {m mx : EM D} {apos cpos np : Pos} {td ty tx : TE}
def KGet (K : PySem.W.Frag) (p : Addr) (z : Str) (r : Option V) : Prop := (∃ u v, r = some v ∧ PySem.W.nsIn K p z = some (some u) ∧ RelV v u) ∨ (r = none ∧ PySem.W.nsIn K p z = some none)
def tKGet (K : PySem.W.Frag) (w : World) (td ty tx : TE) : TE := fun σ H Q => td σ H fun x H1 => ∃ p es n, x = .ref p ∧ K.lookup p = some ⟨.type "dict", none, .dict es n, #[]⟩ ∧ (p == sysModules) = false ∧ PySem.W.KeysLit w.params es.toList ∧ ty σ H1 fun y H2 => tx σ H2 fun z H3 => ∃ s r, y = .str s ∧ KGet K p s r ∧ Q (r.getD z) H3
def oKGet (t : CTab) : D → D → AH → Res D
  | .str z, d, ah => .ok ((t.lookup z).getD d) ah
  | _, _, _ => .stuck
end
end HA
namespace HA
open PySem PySem.Spec PyProof.Rows L2
def oJ : D → D → AH → Res D
  | .str a, .str y, ah => if y.length ≤ line ∧ (a ++ y).length ≤ line then .ok (.str (a ++ y)) ah else .stuck
  | .str a, .int i, ah => if i.natAbs.log2 < 1920 ∧ (a ++ (toString i : Str)).length ≤ line then .ok (.str (a ++ (toString i : Str))) ah else .stuck
  | _, _, _ => .stuck
def eJs (ms : List (EM D)) (a : EM D) : EM D := ms.foldl (fun a m => e2 a m oJ) a
theorem eJs_bind : ∀ (ms : List (EM D)) (a : EM D) (env : Env) (ah : AH), eJs ms a env ah = (a env ah).bind fun d ah1 => eJs ms (eC d) env ah1
  | [], a, env, ah => by
    show a env ah = (a env ah).bind fun d ah1 => .ok d ah1
    cases a env ah <;> rfl
  | m :: ms, a, env, ah => by
    show eJs ms (e2 a m oJ) env ah = (a env ah).bind fun d ah1 => eJs ms (e2 (eC d) m oJ) env ah1
    rw [eJs_bind ms]
    unfold e2
    rw [Res.bind_assoc]
    congr 1
    funext d ah1
    rw [eJs_bind ms]
    rfl
section
variable {X : Cx} {W : WX}
inductive PJs (X : Cx) (W : WX) : List Expr → List (EM D) → Prop where
  | nil : PJs X W [] []
  | fmt {e : Expr} {m : EM D} {es : List Expr} {ms : List (EM D)} {pos : Pos} (h : PD X W e m) (r : PJs X W es ms) : PJs X W (.FormattedValue e (-1) none pos :: es) (m :: ms)
  | txt {x : Str} {es : List Expr} {ms : List (EM D)} {j} {pos : Pos} (r : PJs X W es ms) : PJs X W (.Constant (.str x) j pos :: es) (eC (.str x) :: ms)
theorem oJ_inv {K : PySem.W.Frag} {Wx : Value → Option Addr → Hp → Prop} {μ : List Addr} {H : Hp} {Q : VK} {a : Str} {d : D} {x : V} {ah : AH} {f : D → AH → Res D} (r : Rep K μ H d x) (h : Post K (RD K) Wx μ H Q ((oJ (.str a) d ah).bind f)) :
    ∃ y : Str, ((x = .str y ∧ y.length ≤ sizeLine) ∨ ∃ i : Int, x = .int i ∧ i.natAbs.log2 < 1920 ∧ y = toString i) ∧ (a ++ y).length ≤ sizeLine ∧ Post K (RD K) Wx μ H Q (f (.str (a ++ y)) ah) := by
  cases d with
  | str y =>
    unfold oJ at h
    dsimp only at h
    split at h
    · rename_i hl
      exact ⟨y, .inl ⟨d_str r, line_le hl.1⟩, line_le hl.2, h⟩
    · exact h.elim
  | int i =>
    unfold oJ at h
    dsimp only at h
    split at h
    · rename_i hl
      exact ⟨_, .inr ⟨i, d_int r, hl.1, rfl⟩, line_le hl.2, h⟩
    · exact h.elim
  | _ => exact h.elim
theorem pj_of {es : List Expr} {ms : List (EM D)} (h : PJs X W es ms) : ∃ ts, PJ X es ts ∧ ∀ (acc : Str) (σ : L2.St) (H : Hp) (Q : VK) (μ : List Addr) (env : Env) (ah : AH), EnvRel X.K μ H env σ → Sim X.K μ H ah →
    Post X.K (RD X.K) (fun c d H' => W c d σ H') μ H Q (eJs ms (eC (.str acc)) env ah) → tJs ts acc σ H (fun out H1 => Q (.str out) H1) := by
  induction h with
  | nil => exact ⟨[], .nil, fun acc σ H Q μ env ah hE hS hp => Post.ok1 (R := RD X.K) hp hS r_str⟩
  | @fmt e m es ms pos h r ih =>
    obtain ⟨ts, hj, ih⟩ := ih
    refine ⟨_ :: ts, .cons (pe_fmt h) hj, fun acc σ H Q μ env ah hE hS hp => ?_⟩
    have hp : Post X.K (RD X.K) (fun c d H' => W c d σ H') μ H Q (eJs ms (e2 (eC (.str acc)) m oJ) env ah) := hp
    rw [eJs_bind] at hp
    have hp : Post X.K (RD X.K) (fun c d H' => W c d σ H') μ H Q (((m env ah).bind fun d ah1 => oJ (.str acc) d ah1).bind fun d ah1 => eJs ms (eC d) env ah1) := hp
    rw [Res.bind_assoc] at hp
    refine ⟨μ, env, ah, hE, hS, hp.bind fun d ah1 μ1 x H1 x1 s1 r1 p1 => ?_⟩
    obtain ⟨y, hy, hl, p2⟩ := oJ_inv r1 p1
    rcases hy with ⟨rfl, l1⟩ | ⟨i, rfl, l1, rfl⟩
    · exact .inl ⟨y, rfl, l1, y, rfl, hl, ih (acc ++ y) σ H1 Q μ1 env ah1 (hE.ext x1) s1 p2⟩
    · exact .inr ⟨i, rfl, l1, _, rfl, hl, ih _ σ H1 Q μ1 env ah1 (hE.ext x1) s1 p2⟩
  | @txt z es ms j pos r ih =>
    obtain ⟨ts, hj, ih⟩ := ih
    refine ⟨_ :: ts, .cons pe_str hj, fun acc σ H Q μ env ah hE hS hp => ?_⟩
    have hp : Post X.K (RD X.K) (fun c d H' => W c d σ H') μ H Q (eJs ms (e2 (eC (.str acc)) (eC (.str z)) oJ) env ah) := hp
    rw [eJs_bind] at hp
    have hp : Post X.K (RD X.K) (fun c d H' => W c d σ H') μ H Q ((oJ (.str acc) (.str z) ah).bind fun d ah1 => eJs ms (eC d) env ah1) := hp
    obtain ⟨y, hy, hl, p2⟩ := oJ_inv (x := .str z) (show Rep X.K μ H (.str z) (.str z) by simp only [Rep]) hp
    rcases hy with ⟨e, l1⟩ | ⟨i, e, _⟩
    · cases e
      exact ⟨z, rfl, hl, ih (acc ++ z) σ H Q μ env ah hE hS p2⟩
    · cases e
theorem pd_joined {v1 v2 : Expr} {rest : List Expr} {ms : List (EM D)} {pos : Pos} (h : PJs X W (v1 :: v2 :: rest) ms) : PD X W (.JoinedStr (v1 :: v2 :: rest) pos) (eJs ms (eC (.str Str.empty))) := by
  obtain ⟨ts, hj, k⟩ := pj_of h
  exact PE.weak (pe_joined hj) fun σ H Q ⟨μ, env, ah, hE, hS, hp⟩ => k Str.empty σ H Q μ env ah hE hS hp
end
end HA
namespace HA
open PySem PySem.Spec PyProof.Rows L2
def rgN (i j c : Int) : Nat := (Builtin.Range.rangeSize i j c).toNat
def rgOk (i j c : Int) : Bool := decide (c ≠ 0) && decide (c.natAbs < 1000) && Builtin.Range.small i j c && decide (0 ≤ Builtin.Range.rangeSize i j c)
def iRange3 (d f g : D) (ah : AH) : Res Itm := match d, f, g with
  | .int i, .int j, .int c => if rgOk i j c = true then .ok ⟨(List.range (rgN i j c)).map fun (n : Nat) => D.int (i + n * c), []⟩ ah else .stuck
  | _, _, _ => .stuck
section
variable {X : Cx} {W : WX} {tg : Expr}
end
structure KBD (K : PySem.W.Frag) (fd : FuncData) (ps ks : List Str) (n : Nat) (g : List D → List D → List D) : Prop where
  run : ∀ (s : Shared) (us ws : List Value) (vs zs : List V) (ds fs : List D) (μ : List Addr) (H : Hp), K.In s.heap → vs.length = n → zs.length = ks.length → Vals vs us → Vals zs ws → Reps K μ H ds vs → Reps K μ H fs zs →
    ∃ us' vs', BindsTo s fd ⟨us, ks.zip ws⟩ (ps.zip us') ∧ vs'.length = ps.length ∧ Vals vs' us' ∧ Reps K μ H (g ds fs) vs'
theorem KB.kbd {K : PySem.W.Frag} {fd : FuncData} {ps ks : List Str} {n : Nat} {g : {α : Type} → List α → List α → List α} (h : KB K fd ps ks n g) : KBD K fd ps ks n (fun a b => g a b) := ⟨fun s us ws vs zs ds fs μ H kin hn hk r rz rd rf =>
  ⟨g us ws, g vs zs, h.to s us ws kin (r.length.symm.trans hn) (rz.length.symm.trans hk), h.len vs zs hn hk, h.rel hn hk r rz, h.rep (rd.length.trans hn) (rf.length.trans hk) rd rf⟩⟩
theorem Binds.kbd {K : PySem.W.Frag} {fd : FuncData} {ps : List Str} (h : Binds K fd ps []) : KBD K fd ps [] ps.length (fun a _ => a) := ⟨fun s us ws vs zs ds fs μ H kin hn hk r rz rd rf => by
  have b := h s us kin (by rw [List.append_nil, ← r.length]; exact hn)
  rw [List.append_nil] at b
  exact ⟨us, vs, b, hn, r, rd⟩⟩
section
variable {X : Cx} {W : WX} {k n : Nat} {f : Addr} {fd : FuncData} {ps ks : List Str} {mf : List D → AH → Res D} {x : Str} {p pos : Pos} {e : Expr} {es : List Expr} {ml mk : EM (List D)} {kws : List Keyword} {g : List D → List D → List D}
inductive Args (X : Cx) (W : WX) (pos : Pos) : List Expr → List Keyword → EM (List D) → EM (List D) → Nat → List Str → Prop where
  | none : Args X W pos [] [] aNil aNil 0 []
  | pos {e : Expr} {es : List Expr} {ml : EM (List D)} {n : Nat} (ha : PAs X W (e :: es) ml) (hn : Many n ml) (he : starEach (e :: es) X.env = (false, eval e X.env) :: starEach es X.env := by rfl) (hpl : (backTo pos (starEach es X.env)).any (·.1) = false := by rfl) : Args X W pos (e :: es) [] ml aNil n []
  | kw {kws : List Keyword} {mk : EM (List D)} {ks : List Str} (hkw : PKs X W kws mk) (hn : Many ks.length mk) (hall : (backToKw pos (keywordEach kws X.env)).all (·.1.isSome) = true := by rfl) (hks : (backToKw pos (keywordEach kws X.env)).filterMap (·.1) = ks := by rfl)
    (hpl : ((backTo pos (starEach [] X.env)).any (·.1) || (backToKw pos (keywordEach kws X.env)).any (·.1.isNone)) = false := by rfl) : Args X W pos [] kws aNil mk 0 ks
  | both {e : Expr} {es : List Expr} {kws : List Keyword} {ml mk : EM (List D)} {n : Nat} {ks : List Str} (ha : PAs X W (e :: es) ml) (hn : Many n ml) (hkw : PKs X W kws mk) (hn2 : Many ks.length mk) (hall : (backToKw pos (keywordEach kws X.env)).all (·.1.isSome) = true := by rfl) (hks : (backToKw pos (keywordEach kws X.env)).filterMap (·.1) = ks := by rfl)
    (he : starEach (e :: es) X.env = (false, eval e X.env) :: starEach es X.env := by rfl) (hpl : ((backTo pos (starEach (e :: es) X.env)).any (·.1) || (backToKw pos (keywordEach kws X.env)).any (·.1.isNone)) = false := by rfl) : Args X W pos (e :: es) kws ml mk n ks
theorem Args.run {es : List Expr} {kws : List Keyword} {F : List D → List D → AH → Res D} (A : Args X W pos es kws ml mk n ks) (hk : PySem.W.keepIn X.K (.ref f) = true) (first : List Value) {pins : List (Addr × Obj)} {σ : L2.St} {H : Hp} {s : Shared} {Q : VK} {μ : List Addr} {env : Env} {ah : AH}
    (I : Inv X pins σ H s) (hE : EnvRel X.K μ H env σ) (hs : Sim X.K μ H ah) (hp : Post X.K (RD X.K) (fun c d H' => W c d σ H') μ H Q (e2 ml mk F env ah))
    (k : ∀ us ws vs zs ds fs μ2 H2 ah2 s2, Inv X pins σ H2 s2 → vs.length = n → zs.length = ks.length → Vals vs us → Vals zs ws → Ext X.K μ H μ2 H2 → Sim X.K μ2 H2 ah2 → Reps X.K μ2 H2 ds vs → Reps X.K μ2 H2 fs zs → Post X.K (RD X.K) (fun c d H' => W c d σ H') μ2 H2 Q (F ds fs ah2) →
      wpAny (model X.prog X.w) X.A (call (.ref f) (first ++ us) (ks.zip ws)) (EP X pins σ Q) X.xe s2) :
    wpAny (model X.prog X.w) X.A (callWith pos (.ref f) first (backTo pos (starEach es X.env)) (backToKw pos (keywordEach kws X.env))) (EP X pins σ Q) X.xe s := by
  cases A with
  | none =>
    have z := k [] [] [] [] [] [] μ H ah s I rfl rfl .nil .nil Ext.refl hs Reps.nil Reps.nil hp
    exact PySem.W.callWith_K0 I.kIn hk z
  | pos ha hn he hpl =>
    refine PySem.W.callWith_K (h₀ := X.base) I.ok.mod.kin hk (thn (ha.run pos pins s σ H (fun vs H1 => vs.length = n ∧ ∃ μ1 ah1 ds, Ext X.K μ H μ1 H1 ∧ Sim X.K μ1 H1 ah1 ∧ Reps X.K μ1 H1 ds vs ∧ Post X.K (RD X.K) (fun c d H' => W c d σ H') μ1 H1 Q (F ds [] ah1)) I
      ⟨μ, env, ah, hE, hs, Post.many hn (hp.bind fun ds ah1 μ1 vs H1 e1 s1 r1 p1 hl => ⟨hl, μ1, ah1, ds, e1, s1, r1, p1⟩)⟩) fun us s1 hz => ?_) he hpl
    obtain ⟨vs, H1, I1, r, hl, μ1, ah1, ds, x1, s1', rd, p1⟩ := hz
    exact ⟨I1.kIn, k us [] vs [] ds [] μ1 H1 ah1 s1 I1 hl rfl r .nil x1 s1' rd Reps.nil p1⟩
  | kw hkw hn hall hks hpl =>
    have hp : Post X.K (RD X.K) (fun c d H' => W c d σ H') μ H Q ((mk env ah).bind fun fs ah2 => F [] fs ah2) := hp
    refine PySem.W.callWith_KW0 (h₀ := X.base) I.ok.mod.kin hk hall (thn (hkw.pk.run pos pins s σ H (fun zs H1 => zs.length = ks.length ∧ ∃ μ1 ah1 fs, Ext X.K μ H μ1 H1 ∧ Sim X.K μ1 H1 ah1 ∧ Reps X.K μ1 H1 fs zs ∧ Post X.K (RD X.K) (fun c d H' => W c d σ H') μ1 H1 Q (F [] fs ah1)) I
      ⟨μ, env, ah, hE, hs, Post.many hn (hp.bind fun fs ah1 μ1 zs H1 e1 s1 r1 p1 hl => ⟨hl, μ1, ah1, fs, e1, s1, r1, p1⟩)⟩) fun ws s1 hz => ?_) hpl
    obtain ⟨zs, H1, I1, rz, hl, μ1, ah1, fs, x1, s1', rf, p1⟩ := hz
    rw [hks]
    exact ⟨I1.kIn, k [] ws [] zs [] fs μ1 H1 ah1 s1 I1 rfl hl .nil rz x1 s1' Reps.nil rf p1⟩
  | both ha hn hkw hn2 hall hks he hpl =>
    refine PySem.W.callWith_KW (h₀ := X.base) I.ok.mod.kin hk hall (thn (ha.run pos pins s σ H (fun vs H1 => vs.length = n ∧ ∃ μ1 ah1 ds, EnvRel X.K μ1 H1 env σ ∧ Ext X.K μ H μ1 H1 ∧ Sim X.K μ1 H1 ah1 ∧ Reps X.K μ1 H1 ds vs ∧ Post X.K (RD X.K) (fun c d H' => W c d σ H') μ1 H1 Q ((mk env ah1).bind fun fs ah2 => F ds fs ah2)) I
      ⟨μ, env, ah, hE, hs, Post.many hn (hp.bind fun ds ah1 μ1 vs H1 e1 s1 r1 p1 hl => ⟨hl, μ1, ah1, ds, hE.ext e1, e1, s1, r1, p1⟩)⟩) fun us s1 hz => ?_) hpl he
    obtain ⟨vs, H1, I1, r, hl, μ1, ah1, ds, hE1, x1, s1', rd, p1⟩ := hz
    refine thn (hkw.pk.run pos pins s1 σ H1 (fun zs H2 => zs.length = ks.length ∧ ∃ μ2 ah2 fs, Ext X.K μ1 H1 μ2 H2 ∧ Sim X.K μ2 H2 ah2 ∧ Reps X.K μ2 H2 fs zs ∧ Post X.K (RD X.K) (fun c d H' => W c d σ H') μ2 H2 Q (F ds fs ah2)) I1
      ⟨μ1, env, ah1, hE1, s1', Post.many hn2 (p1.bind fun fs ah2 μ2 zs H2 e2 s2 r2 p2 hl2 => ⟨hl2, μ2, ah2, fs, e2, s2, r2, p2⟩)⟩) fun ws s2 hz => ?_
    obtain ⟨zs, H2, I2, rz, hl2, μ2, ah2, fs, x2, s2', rf, p2⟩ := hz
    rw [hks]
    exact ⟨I2.kIn, k us ws vs zs ds fs μ2 H2 ah2 s2 I2 hl hl2 r rz (x1.trans x2) s2' (Reps.ext rd x2) rf p2⟩
def eMeth (m : Str) (t : MTab) (g : List D → List D → List D) (mo : EM D) (ml mk : EM (List D)) : EM D := fun env ah => (mo env ah).bind fun d ah1 => match d with
  | .ref n => match ah1[n]? with
    | some (.ins C kvs) => if kvs.lookup m = none then match t.lookup C with
      | some mf => e2 ml mk (fun ds fs => mf (g (d :: ds) fs)) env ah1
      | none => .stuck else .stuck
    | _ => .stuck
  | _ => .stuck
structure MthOk (P : Program) (w : World) (K : PySem.W.Frag) (mg : Str → Option Value) (base : Heap) (k : Nat) (name : Str) (ks : List Str) (n : Nat) (g : List D → List D → List D) (C : Str) (m : List D → AH → Res D) : Prop where
  ok : ∃ f fd ps, Cls K (gA K C) ∧ Meth K (gA K C) name f ∧ FnG P w K mg base k f fd ps m ∧ KBD K fd ps ks n g
theorem look_none {m : Str} : ∀ {kvs : List (Str × D)} {kws : List (Str × V)}, kvs.map (·.1) = kws.map (·.1) → kvs.lookup m = none → kws.lookup m = none
  | [], [], _, _ => rfl
  | [], _ :: _, e, _ => by simp at e
  | _ :: _, [], e, _ => by simp at e
  | (k, d0) :: kvs, (k2, v0) :: kws, e, h => by
    simp only [List.map_cons, List.cons.injEq] at e
    obtain ⟨rfl, e⟩ := e
    rw [List.lookup_cons] at h ⊢
    cases q : m == k with
    | true => rw [q] at h; cases h
    | false => rw [q] at h; exact look_none e h
theorem pd_meth {o : Expr} {mo : EM D} {m : Str} {t : MTab} {apos : Pos} {es : List Expr} {kws : List Keyword} {pl : Sem Bool} (ho : PD X W o mo) (T : ∀ q ∈ t, MthOk X.prog X.w X.K X.mg X.base k m ks (n + 1) g q.1 q.2) (hr : Rm k X.A) (tk : Takes X W) (A : Args X W pos es kws ml mk n ks)
    (ht : eval (.Call (.Attribute o m apos) es kws pos) X.env = (do
      let ov ← eval o X.env
      standAt apos.atName
      let (f, first) ← holding [ov] (getMethod ov m pl)
      callWith pos f first (backTo pos (starEach es X.env)) (backToKw pos (keywordEach kws X.env))) := by rfl) :
    PD X W (.Call (.Attribute o m apos) es kws pos) (eMeth m t g mo ml mk) := by
  refine ⟨fun pins s σ H Q I h => ?_⟩
  obtain ⟨μ, env, ah, hE, hs, hp⟩ := h
  refine PySem.W.methodCall_KW (pl := pl) (thn (ho.run pins s σ H (fun x H1 => ∃ μ1 ah1 d, Ext X.K μ H μ1 H1 ∧ Sim X.K μ1 H1 ah1 ∧ Rep X.K μ1 H1 d x ∧ Post X.K (RD X.K) (fun c d H' => W c d σ H') μ1 H1 Q (match d with
    | .ref n => match ah1[n]? with
      | some (.ins C kvs) => if kvs.lookup m = none then match t.lookup C with
        | some mf => e2 ml mk (fun ds fs => mf (g (d :: ds) fs)) env ah1
        | none => .stuck else .stuck
      | _ => .stuck
    | _ => .stuck)) I ⟨μ, env, ah, hE, hs, hp.bind fun d ah1 μ1 x H1 e1 s1 r1 p1 => ⟨μ1, ah1, d, e1, s1, r1, p1⟩⟩) fun u s1 hz => ?_) ht
  obtain ⟨x, H1, I1, rx, μ1, ah1, d, x1, S1, rd1, p1⟩ := hz
  cases d with
  | ref n0 =>
    obtain ⟨a, ea, rfl⟩ := d_ref rd1
    dsimp only at p1
    split at p1
    · rename_i C kvs hn
      split at p1
      · rename_i hl
        split at p1
        · rename_i mf hm
          obtain ⟨f, fd, ps, c, hmeth, F, hb⟩ := (T _ (look_mem hm)).ok
          obtain ⟨dx, fws, e0, ek, rr⟩ := S1.ok n0 a _ ea hn
          obtain rfl : u = Value.ref a := rx
          refine getmeth_ok I1 e0 c hmeth (look_none ek hl) ?_
          refine A.run hmeth.kp [.ref a] I1 (hE.ext x1) S1 p1 fun us ws vs zs ds fs μ2 H2 ah2 s2 I2 l1 l2 r rz x2 S rd rf p2 => ?_
          have ra : Rep X.K μ2 H2 (.ref n0) (.ref a) := Rep.ext rd1 x2
          obtain ⟨us', vs', b, l, r', rd'⟩ := hb.run s2 (.ref a :: us) ws (.ref a :: vs) zs (.ref n0 :: ds) fs μ2 H2 I2.kIn (by rw [List.length_cons, l1]) l2 (.cons rfl r) rz (Reps.cons ra rd) rf
          exact call_G F hr tk I2 b l r' S rd' p2
        · exact p1.elim
      · exact p1.elim
    · exact p1.elim
  | _ => exact p1.elim
end
end HA
namespace HZ
open PySem PySem.Spec PyProof.Rows L2
def ItqX (K : PySem.W.Frag) (N : Nat) (x : Str) (q : Bool × Addr) : It :=
  ⟨fun i H => i < N ∧ ∃ (c : Nat) (ys : List V) (y : V), x.cps[i]? = some c ∧ PtAt K H q ys ∧ ys[i]? = some y,
    fun i H v H' => ∃ T c y, v = .ref T ∧ H T = none ∧ H' = upd H T (.tup [.str ⟨#[c]⟩, y]) ∧ x.cps[i]? = some c ∧ ∀ ys, PtAt K H q ys → ys[i]? = some y,
    fun i H => N ≤ i ∧ ∃ ys : List V, PtAt K H q ys ∧ N ≤ x.cps.size ∧ N ≤ ys.length ∧ (N = x.cps.size ∨ N = ys.length)⟩
end HZ
namespace HA
open PySem PySem.Spec PyProof.Rows L2
def charsD (x : Str) : List D := x.cps.toList.map fun c => D.str ⟨#[c]⟩
def iZipX (d e : D) (ah : AH) : Res Itm := match d, partOf e ah with
  | .str x, some (ys, g) => .ok ⟨pairsD (charsD x) ys, g⟩ ah
  | _, _ => .stuck
section
variable {X : Cx} {W : WX} {e f : Expr} {m m2 : EM D} {p pos tpos : Pos} {elts : List Expr} {kk : Nat}
end
end HA
namespace HA
open PySem PySem.Spec PyProof.Rows L2
def tFin (tb : WX → TS) (tf tfs : TS) (Wout : WX) : TS := fun D σ H => tb (wFin tfs Wout) { nx := fun σ1 H1 => tf D σ1 H1, rt := fun _ _ => False } σ H
section
variable {X : Cx} {body : List Stmt} {f₀ : Stmt} {fs : List Stmt} {pos : Pos} {tb : WX → TS} {tf tfs : TS} {Wout : WX}
end
def sFin (mb mf : SM) : SM := fun env ah => match mb env ah with
  | .nx env1 ah1 => noX (mf env1 ah1)
  | .exn c fs env1 ah1 => match mf env1 ah1 with
    | .nx env2 ah2 => .exn c fs env2 ah2
    | _ => .stuck
  | _ => .stuck
theorem ExnOk.ext {K : PySem.W.Frag} {μ μ' : List Addr} {H H' : Hp} {fs : Flds} {od : Option Addr} (h : ExnOk K μ H fs od) (x : Ext K μ H μ' H') : ExnOk K μ' H' fs od := by
  cases fs with
  | none => exact h
  | some l =>
    obtain ⟨d, fws, rfl, e, k, r⟩ := h
    exact ⟨d, fws, rfl, x.tup.2 _ _ e, k, Reps.ext r x⟩
section
variable {X : Cx} {W : WX} {body : List Stmt} {f₀ : Stmt} {fs : List Stmt} {mb mf : SM} {pos : Pos}
end
def oAddI (x y : D) (ah : AH) : Res D := match x, y with
  | .int i, .int j => .ok (.int (i + j)) ah
  | _, _ => .stuck
section
variable {X : Cx} {W : WX} {o i : Expr} {mo mi : EM D} {pos tpos cp : Pos} {ji : Nat}
def sAugL (mo mi : EM D) (j : Int) : SM := fun env ah => (mo env ah).thenS env fun d ah1 => (mi env ah1).thenS env fun kd ah2 => match d, kd with
  | .ref n, .int i => match ah2[n]? with
    | some (.lst xs) => match ixN xs.length i with
      | some q => match xs[q]? with
        | some (.int x) => .nx env (ah2.set n (.lst (xs.set q (.int (x + j)))))
        | _ => .stuck
      | none => .stuck
    | _ => .stuck
  | _, _ => .stuck
end
def gFld (K : PySem.W.Frag) (ta : TE) (f : Str) : TG := fun y σ H Q => ta σ H fun x H2 => ∃ a C dx fs, x = .ref a ∧ H2 a = some (.ins C dx fs) ∧ Cls K C ∧ NoAttr K C f ∧ fs.length < 1000 ∧ Q σ (upd H2 a (.ins C dx (putF f y fs)))
section
variable {X : Cx} {W : WX} {o o2 v : Expr} {pos p1 p2 : Pos} {mo mo2 : EM D} {d : D}
end
end HA
namespace HA
open PySem PySem.Spec PyProof.Rows L2
structure KwF (K : PySem.W.Frag) (x qual : Str) (st : Stmt) (fd : FuncData) (cs : List (Str × D)) : Prop where
  ex : ∃ (D : Addr) (doc pm : Value) (an : Option Addr) (cdv ct : Value), fd = PySem.W.fnOf x qual (defArgs st) (defBody st) (defScope st) .none (.ref D) doc pm an cdv ct ∧ ∀ q ∈ cs, ∃ u, PySem.W.nsIn K D q.1 = some (some u) ∧ CR K u q.2
section
variable {X : Cx} {W : WX} {k n : Nat} {C : Str} {f : Addr} {fd : FuncData} {ps ks : List Str} {mi : List D → AH → Res D} {g : List D → List D → List D} {es : List Expr} {kws : List Keyword} {ml mk : EM (List D)} {p pos : Pos}
end
section
variable {P : Program} {w : World} {K : PySem.W.Frag} {h : Heap} {mg : Str → Option Value}
structure MT (K : PySem.W.Frag) (C name qual : Str) (st : Stmt) where
  a : Addr
  fd : FuncData
  F : Fun K name qual st a fd
  cl : Cls K (gA K C)
  M : Meth K (gA K C) name a
def mt_mk {C name qual : Str} {st : Stmt} {c f : Addr} {oc : Value} {od an : Option Addr} {osl : Array (Option Value)} {kV doc pm cdv ct : Value}
    (l : K.lookup f = some ⟨oc, od, .func (PySem.W.fnOf name qual (defArgs st) (defBody st) (defScope st) .none kV doc pm an cdv ct), osl⟩) (n : PySem.W.nsIn K mainGlobals C = some (some (.ref c)))
    (cd : PySem.W.codeIn K cdv qual = true) (k : PySem.W.keepIn K (.ref f) = true) (m2 : PySem.W.findIn K (.ref c) name = some (some (.ref f))) (m3 : PySem.W.isFn K (.ref f) = true)
    (a1 : PySem.W.plainGet K c Str.empty = true) (a2 : PySem.W.hasDictIn K c = true) (a3 : PySem.W.plainOver K c = true) (a4 : PySem.W.findIn K (.ref c) "__setattr__" = some (some (.builtin "object.__setattr__"))) : MT K C name qual st :=
  ⟨f, _, fun_mk l cd k, by rw [gA_of n]; exact ⟨a1, a2, a3, a4⟩, by rw [gA_of n]; exact ⟨m2, m3, k⟩⟩
theorem MT.kw {C name qual : Str} {st : Stmt} {c f D : Addr} {oc : Value} {od an : Option Addr} {osl : Array (Option Value)} {doc pm cdv ct : Value} {cs : List (Str × HA.D)}
    (l : K.lookup f = some ⟨oc, od, .func (PySem.W.fnOf name qual (defArgs st) (defBody st) (defScope st) .none (.ref D) doc pm an cdv ct), osl⟩) (n : PySem.W.nsIn K mainGlobals C = some (some (.ref c)))
    (cd : PySem.W.codeIn K cdv qual = true) (k : PySem.W.keepIn K (.ref f) = true) (m2 : PySem.W.findIn K (.ref c) name = some (some (.ref f))) (m3 : PySem.W.isFn K (.ref f) = true)
    (a1 : PySem.W.plainGet K c Str.empty = true) (a2 : PySem.W.hasDictIn K c = true) (a3 : PySem.W.plainOver K c = true) (a4 : PySem.W.findIn K (.ref c) "__setattr__" = some (some (.builtin "object.__setattr__"))) (hq : ∀ q ∈ cs, ∃ u, PySem.W.nsIn K D q.1 = some (some u) ∧ CR K u q.2) :
    KwF K name qual st (mt_mk l n cd k m2 m3 a1 a2 a3 a4).fd cs := ⟨D, doc, pm, an, cdv, ct, rfl, hq⟩
theorem TFk.kw (X : K.In h) (G : h.Ns mainGlobals mg) {x : Str} {st : Stmt} {f D : Addr} {oc : Value} {od an : Option Addr} {osl : Array (Option Value)} {doc pm cdv ct : Value} {cs : List (Str × HA.D)}
    (l : K.lookup f = some ⟨oc, od, .func (PySem.W.fnOf x x (defArgs st) (defBody st) (defScope st) .none (.ref D) doc pm an cdv ct), osl⟩) (n : PySem.W.nsIn K mainGlobals x = some (some (.ref f)))
    (c : PySem.W.codeIn K cdv x = true) (k : PySem.W.keepIn K (.ref f) = true) (hq : ∀ q ∈ cs, ∃ u, PySem.W.nsIn K D q.1 = some (some u) ∧ CR K u q.2) :
    KwF K x x st (tfk_mk X G l n c k).fd cs := ⟨D, doc, pm, an, cdv, ct, rfl, hq⟩
theorem CT.kw (X : K.In h) (G : h.Ns mainGlobals mg) {C q : Str} {st : Stmt} {c f D : Addr} {oc : Value} {od an : Option Addr} {osl : Array (Option Value)} {doc pm cdv ct : Value} {cs : List (Str × HA.D)}
    (l : K.lookup f = some ⟨oc, od, .func (PySem.W.fnOf "__init__" q (defArgs st) (defBody st) (defScope st) .none (.ref D) doc pm an cdv ct), osl⟩) (n : PySem.W.nsIn K mainGlobals C = some (some (.ref c)))
    (cd : PySem.W.codeIn K cdv q = true) (k : PySem.W.keepIn K (.ref f) = true) (m1 : PySem.W.makesIn K c = true) (m2 : PySem.W.findIn K (.ref c) "__init__" = some (some (.ref f))) (m3 : PySem.W.isFn K (.ref f) = true) (m4 : PySem.W.keepIn K (.ref c) = true) (hq : ∀ q ∈ cs, ∃ u, PySem.W.nsIn K D q.1 = some (some u) ∧ CR K u q.2) :
    KwF K "__init__" q st (ct_mk X G l n cd k m1 m2 m3 m4).fd cs := ⟨D, doc, pm, an, cdv, ct, rfl, hq⟩
end
end HA
namespace HA
open PySem PySem.Spec PyProof.Rows L2
def oLenM (t : MTab) (ds : List D) (ah : AH) : Res D := match ds with
  | [.ref n] => match ah[n]? with
    | some (.ins C _) => match t.lookup C with
      | some mf => match mf [.ref n] ah with
        | .ok (.int i) ah2 => if 0 ≤ i ∧ i < 2 ^ 63 then .ok (.int i) ah2 else .stuck
        | _ => .stuck
      | none => .stuck
    | _ => .stuck
  | _ => .stuck
def eLenM (t : MTab) (mo : EM D) : EM D := e1 (aCons mo aNil) (oLenM t)
structure LenOk (P : Program) (w : World) (K : PySem.W.Frag) (mg : Str → Option Value) (base : Heap) (k : Nat) (C : Str) (m : List D → AH → Res D) : Prop where
  ok : ∃ f fd, PySem.W.findIn K (.ref (gA K C)) "__len__" = some (some (.ref f)) ∧ PySem.W.isFn K (.ref f) = true ∧ FnG P w K mg base k f fd ["self"] m ∧ Binds K fd ["self"] []
open Builtin in
section
variable {X : Cx} {W : WX} {k : Nat} {t : MTab}
end
def sStuck : SM := fun _ _ => .stuck
end HA
namespace HA
open PySem PySem.Spec PyProof.Rows L2
section
variable {prog : Program} {w : World} {A : Around} {E : Value → Shared → Prop} {s : Shared}
end
structure RmH (k : Nat) (A : Around) : Prop where
  room : L2H.RoomH k A
  gd : A.guards = some []
theorem RmH.mono {j k : Nat} {A : Around} (r : RmH k A) (h : j ≤ k) : RmH j A := ⟨r.room.mono h, r.gd⟩
structure FnGH (P : Program) (w : World) (K : PySem.W.Frag) (mg : Str → Option Value) (base : Heap) (k : Nat) (f : Addr) (fd : FuncData) (ps : List Str) (m : List D → AH → Res D) : Prop where
  run : ∀ (A : Around) (lo : List PySem.Env) (s : Shared) (H : Hp) (args : PySem.Args) (us : List Value) (vs : List V) (Q : VK) (E : XK) (μ : List Addr) (ds : List D) (ah : AH) (p : Addr × Obj), RmH k A → L2H.Hot1 A p → L2H.PinOk lo H s p → Env0 P w K mg base A lo s H → BindsTo s fd args (ps.zip us) → Vals vs us → vs.length = ps.length →
    Sim K μ H ah → Reps K μ H ds vs → Post K (RD K) (fun c d H' => E c d H') μ H Q (m ds ah) → codeAny (model P w) A (.call (.ref f) args) (L2.CR (CXf K P w) lo P w H s Q E) s
section
variable {P : Program} {w : World} {K : PySem.W.Frag} {mg : Str → Option Value} {base : Heap}
theorem FnGH.mono {j k : Nat} {f : Addr} {fd : FuncData} {ps : List Str} {m : List D → AH → Res D} (F : FnGH P w K mg base j f fd ps m) (h : j ≤ k) : FnGH P w K mg base k f fd ps m :=
  ⟨fun A lo s H args us vs Q E μ ds ah p hr => F.run A lo s H args us vs Q E μ ds ah p (hr.mono h)⟩
end
section
variable {X : Cx} {W : WX} {k : Nat} {f : Addr} {fd : FuncData} {ps ks : List Str} {m : List D → AH → Res D}
structure MthOkH (P : Program) (w : World) (K : PySem.W.Frag) (mg : Str → Option Value) (base : Heap) (k : Nat) (name : Str) (ks : List Str) (n : Nat) (g : List D → List D → List D) (C : Str) (m : List D → AH → Res D) : Prop where
  ok : ∃ f fd ps, Cls K (gA K C) ∧ Meth K (gA K C) name f ∧ FnGH P w K mg base k f fd ps m ∧ KBD K fd ps ks n g
end
section
variable {i : Nat}
end
end HA
namespace HA
open PySem PySem.Spec PyProof.Rows L2 HotX
def causeAt (h : Heap) (a : Addr) (v : Value) : Heap := (h.update a (Obj.mapFields (·.setIfInBounds 3 v))).update a (Obj.mapFields (·.setIfInBounds 4 (.bool true)))
end HA
namespace HA
open PySem PySem.Spec PyProof.Rows L2
def cGtB : D → D → AH → Res Bool
  | .bl b, .int j, ah => .ok (decide (j < dI b)) ah
  | x, y, ah => cGt x y ah
variable {X : Cx}
end HA
namespace HA
open PySem PySem.Spec PyProof.Rows L2
def oIntS : List D → AH → Res D
  | [.str a], ah => if a.length ≤ 640 then match PySem.intText? a with
      | some n => .ok (.int n) ah
      | none => .stuck else .stuck
  | ds, ah => oInt ds ah
variable {X : Cx}
end HA
namespace HA
open PySem PySem.Spec PyProof.Rows L2
def mCountS : D → List D → AH → Res D
  | .str a, [.str b], ah => .ok (.int (Txt.count a b)) ah
  | _, _, _ => .stuck
def signs (x : Str) : List Str := x.cps.toList.map fun c => ⟨#[c]⟩
def RS : Rel (List D) V := ⟨fun _ _ _ ds v => ∃ z : Str, v = .str z ∧ z.length ≤ line ∧ ds = chars z, fun _ h => h⟩
def sChars (d : D) (ah : AH) : Res (List D) := match d with
  | .str z => if z.length ≤ line then .ok (chars z) ah else .stuck
  | _ => .stuck
section
variable {X : Cx} {W : WX} {e : Expr} {m : EM D}
end
end HA
namespace HA
open PySem PySem.Spec PyProof.Rows L2
def pairD : D → Option (Key × D)
  | .tup [a, b] => (dKey a).map fun kk => (kk, b)
  | _ => none
def sDict (ds : List D) (ah : AH) : Res D := match optAll pairD ds with
  | some kvs => .ok (.ref ah.length) (ah ++ [.dK (dispD kvs)])
  | none => .stuck
end HA
namespace HA
open PySem PySem.Spec PyProof.Rows L2
section
variable {prog : Program} {w : World} {A : Around} {E : Value → Shared → Prop} {s : Shared}
end
section
variable {X : Cx}
def gTail (K : PySem.W.Frag) (to ti : TE) : TG := fun v σ H Q => to σ H fun x H1 => ti σ H1 fun y H2 => ∃ (a b : Addr) (xs ys : List V) (i : Int), x = .ref a ∧ v = .ref b ∧ y = .int i ∧ 0 ≤ i ∧ i ≤ xs.length ∧ a ≠ b ∧ H2 a = some (.lst xs) ∧ H2 b = some (.lst ys) ∧ xs.length + ys.length ≤ sizeLine ∧ Q σ (upd H2 a (.lst (xs.take i.toNat ++ ys)))
end
def sTail (mo mi mv : EM D) : SM := fun env ah => (mv env ah).thenS env fun v ah1 => (mo env ah1).thenS env fun d ah2 => (mi env ah2).thenS env fun kd ah3 => match d, kd, v with
  | .ref n, .int i, .ref m => match ah3[n]?, ah3[m]? with
    | some (.lst xs), some (.lst ys) => if 0 ≤ i ∧ i ≤ xs.length ∧ n ≠ m ∧ xs.length + ys.length ≤ line then .nx env (ah3.set n (.lst (xs.take i.toNat ++ ys))) else .stuck
    | _, _ => .stuck
  | _, _, _ => .stuck
section
variable {X : Cx} {W : WX} {o lo v : Expr} {mo mi mv : EM D} {pos pos' p2 : Pos}
end
end HA
namespace HA
open PySem PySem.Spec PyProof.Rows L2
section
open PySem.W Builtin
variable {prog : Program} {w : World} {A : Around} {E : Value → Shared → Prop} {s : Shared} {K : Frag} {x C L f : Addr} {h₀ : Heap} {m : Str → Option Value} {ox : Obj} {od : Option Obj} {b tb : Value}
theorem on_bind (self : Value) : bindSpecial (.builtin "object.__ne__") self = pure (.builtin "object.__ne__", [self]) :=
  (Slot.of (T := "object") (name := "__ne__") (owner := "object") (n := "__ne__") (by rw [typeLookup_type, builtinLookup_eq_fast]; kernel_rfl) (by decide +kernel) (by decide +kernel) (by decide +kernel)
    (.inl (by decide +kernel)) (by rw [isSubtype_type]; kernel_rfl)).bind self
theorem on_plain : plainId "object.__ne__" = true := by decide +kernel
theorem ne_bound {Q : Option Value → Shared → Prop} (X : K.In s.heap) (I : InstAt s.heap x ox C od) (hs : findIn K (.ref C) "__ne__" = some (some (.builtin "object.__ne__")))
    (h : wpAny (model prog w) A (call (.builtin "object.__ne__") [.ref x, b]) (fun v => Q (some v)) E s) : wpAny (model prog w) A (callSpecialIfBound? (.ref x) "__ne__" [b]) Q E s := by
  simp only [callSpecialIfBound?, bindSpecialIfBound?]
  refine wpAny_holding (wpAny_bind (wpAny_bind (wpAny_bind (I.type.here ((looks_findIn X hs).here ?_)))))
  refine wpAny_bind (wpAny_askSetting (wpAny_ite ?_))
  have fin : wpAny (model prog w) A (call (.builtin "object.__ne__") ([.ref x] ++ [b]) >>= fun v => pure (some v)) Q E s := wpAny_bind (wpAny_mono h (fun v s' h' => wpAny_pure h') fun _ _ h' => h')
  have L : Looks (model prog w) s.heap (bindSpecial (.builtin "object.__ne__") (.ref x)) (.builtin "object.__ne__", [.ref x]) := Looks.of_pure (on_bind _)
  split
  · exact wpAny_bind (L.here (wpAny_pure (by exact fin)))
  · exact wpAny_tryCatch (wpAny_bind (L.here (wpAny_pure (by exact fin))))
theorem ne_body {Q : Fin → Shared → Prop} (X : K.In s.heap) (I : InstAt s.heap x ox C od) (hs : findIn K (.ref C) "__eq__" = some (some (.ref f))) (hf : isFn K (.ref f) = true) (hu : A.units < cLine)
    (h : wpAny (model prog w) A (call (.ref f) [.ref x, b]) (fun v s' => ∃ r, v = .bool r ∧ Q (.done (.ret (.bool (!r)))) s') E s) : wpAny (model prog w) A (Builtin.«object.__ne__» ⟨[.ref x, b], []⟩) Q E s := by
  obtain ⟨hp, g, d, t, os⟩ := s
  unfold Builtin.«object.__ne__»
  repeat (first
    | with_reducible refine wpAny_cRoomFor hu ?_
    | (refine wpAny_bind (m := callSpecialIfBound? (.ref x) (Str.ofString "__eq__") [b])
        (ifBound_K X I hs hf (wpAny_mono h (fun r s' hr => by
          obtain ⟨r, rfl, hq⟩ := hr
          repeat (first | exact hq | exact wpAny_pure hq | exact wpAny_truthy_bool hq | (refine wpAny_bind (m := truthy (.bool _)) (wpAny_truthy_bool ?_)) | wp_step)) fun _ _ e => e)))
    | wp_step)
theorem ne_K {Q : Value → Shared → Prop} (hu : A.units + 1 < cLine) (Fx : PyProof.Rows.Fr h₀ L s.heap m) (X₀ : K.In h₀) (I : InstAt s.heap x ox C od) (hb : Looks (model prog w) s.heap (typeOf b) tb) (hn : notFirst K C tb = true)
    (hs : findIn K (.ref C) "__ne__" = some (some (.builtin "object.__ne__"))) (he : findIn K (.ref C) "__eq__" = some (some (.ref f))) (hf : isFn K (.ref f) = true) (ho : subIn K (.ref C) (.type "object") = some true)
    (h : wpAny (model prog w) A.in1 (call (.ref f) [.ref x, b]) (fun v s' => ∃ r, v = .bool r ∧ Q (.bool (!r)) s') E s) : wpAny (model prog w) A (richCompare .NotEq (.ref x) b) Q E s := by
  have X := X₀.keeps Fx.keep
  have sub : Looks (model prog w) s.heap (isInstance (.ref x) (.type "object")) true := I.type.andThen (looks_subIn X ho)
  have one : wpAny (model prog w) A (tryCompare (.ref x) "__ne__" b) (fun r s' => ∃ v, r = some v ∧ Q v s') E s := by
    unfold tryCompare
    refine wpAny_bind (ne_bound X I hs (wpAny_call (codeAny_call_builtin on_plain F.cmpEntry_ne (@check_slot (model prog w) _ _ s "object.__ne__" "object" "__ne__" (.ref x) [b] [] _ F.cmpKind_ne F.cmpSplit_ne sub (F.cmpArgs_ne _ _) ?_))))
    refine ne_body (A := A.in1) X I he hf (by
      have : A.in1.units = A.units + 1 := rfl
      omega) (wpAny_mono h (fun v s' hv => ?_) fun _ _ e => e)
    obtain ⟨r, rfl, hq⟩ := hv
    first
      | exact ⟨r, rfl, wpAny_pure ⟨_, rfl, hq⟩⟩
      | exact ⟨r, rfl, wpAny_pure (wpAny_pure ⟨_, rfl, hq⟩)⟩
  have e1 : (cmpInfo .NotEq).2.1 = ("__ne__" : Str) := by rw [cmpInfo_NotEq] <;> rfl
  unfold richCompare
  simp only [oneThing_ref]
  refine wpAny_holding (wpAny_bind (wpAny_cRoomFor (Nat.lt_of_succ_lt hu) ?_))
  rw [cmpInfo_NotEq]
  dsimp only
  refine wpAny_bind (I.type.here (wpAny_bind (hb.here ?_)))
  split
  · rename_i q
    have e : subIn K tb (.ref C) = some false := by
      rcases Bool.or_eq_true_iff.mp hn with e | e
      · rw [beq_iff_eq.mp e] at q; simp at q
      · exact beq_iff_eq.mp e
    refine wpAny_bind ((looks_subIn X e).here ?_)
    simp only [Bool.false_eq_true, if_false]
    refine wpAny_bind (wpAny_mono one (fun r s' z => ?_) fun _ _ e => e)
    obtain ⟨v, rfl, hq⟩ := z
    exact wpAny_pure hq
  · refine wpAny_bind (wpAny_pure ?_)
    simp only [Bool.false_eq_true, if_false]
    refine wpAny_bind (wpAny_mono one (fun r s' z => ?_) fun _ _ e => e)
    obtain ⟨v, rfl, hq⟩ := z
    exact wpAny_pure hq
end
def cEqM (t : MTab) (neg : Bool) (x y : D) (ah : AH) : Res Bool := match x, y with
  | .ref n, .ref m => match ah[n]?, ah[m]? with
    | some (.ins C _), some (.ins C' _) => if C' = C then match t.lookup C with
        | some mf => match mf [.ref n, .ref m] ah with
          | .ok (.bl b) ah2 => .ok (b != neg) ah2
          | _ => .stuck
        | none => .stuck else .stuck
    | _, _ => .stuck
  | _, _ => .stuck
structure CmpOk (P : Program) (w : World) (K : PySem.W.Frag) (mg : Str → Option Value) (base : Heap) (k : Nat) (C : Str) (m : List D → AH → Res D) : Prop where
  ok : ∃ f fd ps, PySem.W.findIn K (.ref (gA K C)) "__eq__" = some (some (.ref f)) ∧ PySem.W.isFn K (.ref f) = true ∧ FnG P w K mg base k f fd ps m ∧ Binds K fd ps [] ∧ ps.length = 2
  ne : PySem.W.findIn K (.ref (gA K C)) "__ne__" = some (some (.builtin "object.__ne__"))
  ob : PySem.W.subIn K (.ref (gA K C)) (.type "object") = some true
section
variable {X : Cx} {k : Nat} {t : MTab}
theorem ne_mk {K : PySem.W.Frag} {C : Str} {c : Addr} (n : PySem.W.nsIn K mainGlobals C = some (some (.ref c))) (h : PySem.W.findIn K (.ref c) "__ne__" = some (some (.builtin "object.__ne__"))) : PySem.W.findIn K (.ref (gA K C)) "__ne__" = some (some (.builtin "object.__ne__")) := by rw [gA_of n]; exact h
theorem ob_mk {K : PySem.W.Frag} {C : Str} {c : Addr} (n : PySem.W.nsIn K mainGlobals C = some (some (.ref c))) (h : PySem.W.subIn K (.ref c) (.type "object") = some true) : PySem.W.subIn K (.ref (gA K C)) (.type "object") = some true := by rw [gA_of n]; exact h
theorem od_cmpM (neg : Bool) (T : ∀ q ∈ t, CmpOk X.prog X.w X.K X.mg X.base k q.1 q.2) (hr : Rm (k + 1) X.A) : OpD X RBV (compareOp (if neg then .NotEq else .Eq)) (cEqM t neg) := fun Wx => by
  intro pins s σ H x y v u Q I rx ry ⟨μ, ah, dx, dy, S, rdx, rdy, hp⟩
  unfold cEqM at hp
  split at hp
  · rename_i n n2
    obtain ⟨a, ea, rfl⟩ := d_ref rdx
    obtain ⟨b, eb, rfl⟩ := d_ref rdy
    split at hp
    · rename_i C kvs C' kvs' hn hn2
      split at hp
      · rename_i hC
        subst hC
        split at hp
        · rename_i mf hm
          have TT := T _ (look_mem hm)
          obtain ⟨f, fd, ps, h1, h2, F, bn, lps⟩ := TT.ok
          obtain ⟨dx1, fws, e0, ek, rr⟩ := S.ok n a _ ea hn
          obtain ⟨dx2, fws2, e02, ek2, rr2⟩ := S.ok n2 b _ eb hn2
          obtain ⟨mA, O, _, _, _, _⟩ := ins_get I.hok e0
          obtain ⟨od, J, _⟩ := O.look
          obtain ⟨mA2, O2, _, _, _, _⟩ := ins_get I.hok e02
          obtain ⟨od2, J2, _⟩ := O2.look
          cases (show v = Value.ref a from rx)
          cases (show u = Value.ref b from ry)
          obtain ⟨m, hF⟩ := I.fr
          have hr1 : Rm k X.A.in1 := ⟨Room.in1 (hr.room), hr.gd⟩
          have hr0 : Rm k X.A := hr.mono (by omega)
          have po : Post X.K (RD X.K) (fun c d H' => WE W0 σ c d H') μ H (fun z H' => ∃ r : Bool, z = .bl r ∧ Q (.bl (r != neg)) H') (mf [.ref n, .ref n2] ah) := by
            cases q : mf [.ref n, .ref n2] ah with
            | ok d ah2 =>
              rw [q] at hp
              cases d with
              | bl r =>
                dsimp only at hp
                intro μ' z H' x s2 r2
                obtain rfl : z = .bl r := d_bl (show Rep X.K μ' H' (.bl r) z from r2)
                exact ⟨r, rfl, hp μ' _ H' x s2 rfl⟩
              | _ => exact hp.elim
            | exn c fs ah2 => rw [q] at hp; exact hp.elim
            | stuck => rw [q] at hp; exact hp.elim
          have bb : BindsTo s fd ⟨[Value.ref a, Value.ref b], []⟩ (ps.zip [Value.ref a, Value.ref b]) := by
            have := bn s [Value.ref a, Value.ref b] I.kIn (by simp [lps])
            simpa using this
          have go : ∀ (A' : Around), Rm k A' → A'.frames = X.A.frames → wpAny (model X.prog X.w) A' (call (.ref f) [.ref a, .ref b]) (fun v s' => ∃ r, v = .bool r ∧ EP X pins σ Q (.bool (r != neg)) s') X.xe s := fun A' hA hAf => by
            have e1 : Env0 X.prog X.w X.K X.mg X.base A' X.stack s H := by
              have e := I.env0
              exact ⟨by rw [hAf]; exact e.frames, e.mod, e.bs, e.bsz, e.funs, e.frf, e.hok, e.bare⟩
            refine wpAny_call (codeAny_mono (F.run A' X.stack s H ⟨[.ref a, .ref b], []⟩ [.ref a, .ref b] [.ref a, .ref b] _ (WE W0 σ) μ [.ref n, .ref n2] ah hA e1 bb (.cons rfl (.cons rfl .nil)) (by simp [lps]) S (Reps.cons rdx (Reps.cons rdy Reps.nil)) po) fun r s' hq => ?_)
            cases r with
            | error e => exact passF (takes0 (X := X)) σ pins H s e s' I hq
            | ok fl =>
              cases fl with
              | ret u =>
                obtain ⟨z, H', I', rz, r, rfl, q3⟩ := I.after hq
                cases (show u = Value.bool r from rz)
                exact ⟨r, rfl, .bl (r != neg), H', I', rfl, q3⟩
              | next => exact hq.elim
              | brk => exact hq.elim
              | cont => exact hq.elim
          have hn0 : PySem.W.notFirst X.K (gA X.K C') (.ref (gA X.K C')) = true := by unfold PySem.W.notFirst; simp
          cases neg with
          | false =>
            show wpAny (model X.prog X.w) X.A (richCompare .Eq (.ref a) (.ref b)) (EP X pins σ Q) X.xe s
            refine PySem.W.cmp_K (op := .Eq) (tb := .ref (gA X.K C')) hr0.room.units0 hF I.ok.mod.kin J J2.type hn0 h1 h2 (wpAny_mono (go X.A hr0 rfl) (fun v s' z => ?_) fun _ _ e => e)
            obtain ⟨r, rfl, z⟩ := z
            have e : (r != false) = r := by cases r <;> rfl
            rw [e] at z
            exact z
          | true =>
            show wpAny (model X.prog X.w) X.A (richCompare .NotEq (.ref a) (.ref b)) (EP X pins σ Q) X.xe s
            refine ne_K hr.u1 hF I.ok.mod.kin J J2.type hn0 TT.ne h1 h2 TT.ob (wpAny_mono (go X.A.in1 hr1 rfl) (fun v s' z => ?_) fun _ _ e => e)
            obtain ⟨r, rfl, z⟩ := z
            have e : (r != true) = !r := by cases r <;> rfl
            rw [e] at z
            exact ⟨r, rfl, z⟩
        · exact hp.elim
      · exact hp.elim
    · exact hp.elim
  · exact hp.elim
end
section
open PySem.W PySem.Calls
variable {K : Frag} {x C : Addr} {ox : Obj} {od : Option Obj}
theorem ans_exact : Answers (fun s => InstAt s.heap x ox C od) (.ref x) (.ref C) true := by
  intro dep tk prog w A R s hs
  obtain ⟨h0, g, d, tt, os⟩ := s
  obtain ⟨p, hq⟩ := hs
  have LT : Looks (model prog w) h0 (typeOf (.ref x)) (.ref C) := InstAt.type p
  unfold Builtin.«isinstance.nested»
  refine wpAny_bind (LT.at ?_)
  have q : (Value.ref C == Value.ref C) = true := by simp
  rw [if_pos q]
  first
    | ((repeat lk); exact hq tt)
    | exact wpAny_bind (wpAny_rule (hq tt))
    | exact wpAny_bind (wpAny_rule (wpAny_pure (hq tt)))
theorem isi_exact {prog : Program} {w : World} {A : Around} {E : Value → Shared → Prop} {s : Shared} {Q : Value → Shared → Prop} (p : InstAt s.heap x ox C od) (h : ∀ tk, Q (.bool true) { s with toks := tk }) :
    wpAny (model prog w) A (call (.builtin "isinstance") [.ref x, .ref C]) Q E s :=
  call_isinstance (S := fun _ R s => InstAt s.heap x ox C od ∧ ∀ tk, R (.ok (.ret (.bool true))) { s with toks := tk })
    (fun prog w A R s hs => isinstance_outer (ans_exact 0 _ prog w A R s hs) (fun z => nomatch z)) ⟨p, h⟩
end
def insName (d : D) (ah : AH) : Option Str := match d with
  | .ref n => match ah[n]? with
    | some (.ins C _) => some C
    | _ => none
  | _ => none
def oIsiO (cs : List Str) : List D → AH → Res D
  | [d, .glo C], ah => match insName d ah with
    | some C' => if C' = C then .ok (.bl true) ah else .stuck
    | none => match tyName d ah with
      | some _ => if C ∈ cs then .ok (.bl false) ah else .stuck
      | none => .stuck
  | _, _ => .stuck
structure IsOk (K : PySem.W.Frag) (C : Str) : Prop where
  cl : PySem.W.isClsIn K (gA K C) = true
  ty : PySem.W.typeIn K (.ref (gA K C)) = some (.type "type")
  no : ∀ T ∈ tyTable, PySem.W.subIn K (.type T) (.ref (gA K C)) = some false
theorem IsOk.kit {K : PySem.W.Frag} {C : Str} (h : IsOk K C) {T : String} (hT : T ∈ tyTable) : PySem.W.kitOne K (.type T) (.ref (gA K C)) = some false := by
  unfold PySem.W.kitOne
  rw [if_neg (fun e => by cases beq_iff_eq.mp e)]
  unfold PySem.W.kitCls
  have e : ((PySem.W.clsIn K (gA K C)).isSome && PySem.W.typeIn K (.ref (gA K C)) == some (.type "type")) = true := by
    have := h.cl
    unfold PySem.W.isClsIn at this
    rw [this, h.ty]
    rfl
  simp only [e, if_true]
  exact h.no T hT
theorem is_mk {K : PySem.W.Frag} {C : Str} {c : Addr} (n : PySem.W.nsIn K mainGlobals C = some (some (.ref c))) (cl : PySem.W.isClsIn K c = true) (ty : PySem.W.typeIn K (.ref c) = some (.type "type"))
    (h0 : PySem.W.subIn K (.type "NoneType") (.ref c) = some false) (h1 : PySem.W.subIn K (.type "bool") (.ref c) = some false) (h2 : PySem.W.subIn K (.type "int") (.ref c) = some false) (h3 : PySem.W.subIn K (.type "str") (.ref c) = some false) (h4 : PySem.W.subIn K (.type "tuple") (.ref c) = some false) (h5 : PySem.W.subIn K (.type "list") (.ref c) = some false) (h6 : PySem.W.subIn K (.type "dict") (.ref c) = some false) : IsOk K C := by
  have e := gA_of n
  refine ⟨by rw [e]; exact cl, by rw [e]; exact ty, fun T hT => ?_⟩
  rw [e]
  simp only [tyTable, List.mem_cons, List.not_mem_nil, or_false] at hT
  rcases hT with rfl | rfl | rfl | rfl | rfl | rfl | rfl <;> assumption
section
variable {X : Cx} {W : WX} {cs : List Str}
theorem cd_isiO (hT : ∀ C ∈ cs, IsOk X.K C) : CallD X (RD X.K) (.builtin "isinstance") (oIsiO cs) := fun W => by
  intro pins s σ H xs us Q I rv h
  obtain ⟨μ, ah, ds, S, r, hp⟩ := h
  unfold oIsiO at hp
  split at hp
  · rename_i d C
    obtain ⟨v, w, rfl, r1, r2⟩ := reps2 r
    have ew : w = .ref (gA X.K C) := by simpa only [Rep] using r2
    subst ew
    split at hp
    · rename_i C' hi
      split at hp
      · rename_i hC
        subst hC
        unfold insName at hi
        split at hi
        · rename_i n
          split at hi
          · rename_i kvs hn
            cases hi
            obtain ⟨a, ea, rfl⟩ := d_ref r1
            obtain ⟨dx, fws, e0, ek, rr⟩ := S.ok n a _ ea hn
            obtain ⟨mA, O, _, _, _, _⟩ := ins_get I.hok e0
            obtain ⟨od, J, _⟩ := O.look
            obtain ⟨u1, u2, rfl, ru1, ru2⟩ := vals2 rv
            cases (show u1 = Value.ref a from ru1)
            cases (show u2 = Value.ref _ from ru2)
            exact isi_exact J fun tk => ⟨.bl true, H, I.tok tk, rfl, Post.ok1 (R := RD X.K) hp S r_bl⟩
          · cases hi
        · cases hi
      · exact hp.elim
    · split at hp
      · rename_i T hT2
        split at hp
        · rename_i hC
          obtain ⟨t1, t2⟩ := tyName_v S r1 hT2
          obtain ⟨u1, u2, rfl, ru1, ru2⟩ := vals2 rv
          cases (show u2 = Value.ref _ from ru2)
          obtain ⟨P, Z, p, hx⟩ := kit_of I ru1 t1
          exact PySem.W.kia_one Z I.kIn p ((hT C hC).kit t2) hx fun tk => ⟨.bl false, H, I.tok tk, rfl, Post.ok1 (R := RD X.K) hp S r_bl⟩
        · exact hp.elim
      · exact hp.elim
  · exact hp.elim
end
end HA
namespace HA
open PySem PySem.Spec PyProof.Rows L2
def gStarBD (n : Nat) (u : List D → HA.Env → AH → Option HA.Env) : TMX := fun d => match d with
  | .tup ds => gStarD n u (.tup ds)
  | d => gStarLD n u d
section
variable {X : Cx} {es : List Expr} {pos : Pos} {ts : List Nat} {n : Nat}
end
end HA
namespace HA
open PySem PySem.Spec PyProof.Rows L2
section
variable {X : Cx} {pins : List (Addr × Obj)} {σ : L2.St} {H : Hp} {s : Shared}
end
abbrev asOut (X : Cx) (A' : Around) (n : Str) (q2 : Pos) (x : Value) (t : Shared) : Prop :=
  wpAny (model X.prog X.w) A' (noteFrame x X.env) (fun _ t1 =>
    wpAny (model X.prog X.w) A' (do bindName X.env n .none; unbindBehindTheSuite X.env n q2)
      (fun _ t2 => wpAny (model X.prog X.w) A' (PySem.passOn "try.except-as" x X.env : Sem Flow) (fun _ _ => False) (notedBy (model X.prog X.w) A' X.env fun x s' => cameBackBy (model X.prog X.w) X.A X.env X.xe x s') t2)
      (fun y t2 => wpAny (model X.prog X.w) A' (setFlight x none) (fun _ t3 => (notedBy (model X.prog X.w) A' X.env fun x s' => cameBackBy (model X.prog X.w) X.A X.env X.xe x s') y t3) (notedBy (model X.prog X.w) A' X.env fun x s' => cameBackBy (model X.prog X.w) X.A X.env X.xe x s') t2) t1)
    (notedBy (model X.prog X.w) A' X.env fun x s' => cameBackBy (model X.prog X.w) X.A X.env X.xe x s') t
abbrev asCx (X : Cx) (a : Addr) (pn : List (Addr × Obj)) (n : Str) (q2 : Pos) : Cx := { X.suite a pn with xe := asOut X (X.A.mark (some (.ref a))) n q2 }
section
variable {X : Cx} {pins : List (Addr × Obj)} {Wo : WX} {i : Nat} {n : Str} {q2 : Pos}
end
def wF (K : PySem.W.Frag) (C : Addr) (x f : Str) (i j : Nat) (Wo : WX) : WX := fun k d σ H => ∃ b, PySem.W.exmOne K k (.ref C) = some b ∧
  (b = true → k = .ref C ∧ ∃ v, σ[j]? = some (some v) ∧ ∀ dx, H dx = none → Wo (.ref (gA K x)) (some dx) (σ.set i none) (upd H dx (.xd [(f, v)]))) ∧ (b = false → Wo k d σ H)
section
variable {X : Cx} {body : List Stmt} {tb : WX → TS} {Wo : WX} {k : Nat} {x f n y cN : Str} {i j : Nat} {p py pn0 pos rp q1 q2 tpos : Pos}
end
def sTryF (t : STab) (mb : SM) (x f : Str) (i j : Nat) : SM := fun env ah => match mb env ah with
  | .exn c fs env1 ah1 => match sLook t c "NoBase" with
    | some true => match env1[j]? with
      | some (some d) => .exn x (some [(f, d)]) (env1.set i none) ah1
      | _ => .stuck
    | some false => .exn c fs env1 ah1
    | none => .stuck
  | r => r
section
variable {X : Cx} {body : List Stmt} {mb : SM} {t : STab} {W : WX} {k : Nat} {x f n y cN : Str} {i j : Nat} {p py pn0 pos rp q1 q2 tpos : Pos}
end
end HA
namespace HA
open PySem PySem.Spec PyProof.Rows L2
def strLe (a b : Str) : Bool := !ltCps b.cps.toList a.cps.toList
def keyT : Key → Option Str
  | .inr s => some s
  | .inl _ => none
theorem Reps.of_strs {K : PySem.W.Frag} {μ : List Addr} {H : Hp} : ∀ (ns : List Str), Reps K μ H (ns.map D.str) (ns.map V.str)
  | [] => Reps.nil
  | n :: ns => Reps.cons (by simp only [Rep]) (Reps.of_strs ns)
def lSortK (d : D) (ah : AH) : Res (List D) := match d with
  | .ref n => match ah[n]? with
    | some (.dK kvs) => match optAll keyT (kvs.map (·.1)) with
      | some ks => if ks.length < 64 then .ok ((ks.mergeSort strLe).map D.str) ah else .stuck
      | none => .stuck
    | _ => .stuck
  | _ => .stuck
section
variable {X : Cx} {W : WX} {e : Expr} {m : EM D} {p pos : Pos}
end
def cEqE (neg : Bool) (x y : D) (ah : AH) : Res Bool := match x, y with
  | .ref n, .ref m => match ah[n]?, ah[m]? with
    | some (.dK kvs), some (.dK []) => .ok (decide (kvs.length = 0) != neg) ah
    | _, _ => .stuck
  | _, _ => .stuck
end HA
namespace HA
open PySem PySem.Spec PyProof.Rows L2
def eKV (mk mv : EM D) : EM D := fun env ah => (mk env ah).bind fun a ah1 => match dKey a with
  | some _ => (mv env ah1).bind fun b ah2 => .ok (.tup [a, b]) ah2
  | none => .stuck
def eDc (mi : EM Itm) (tm : TM) (test : EM Bool) (mk mv : EM D) (vs : List Nat) : EM D := e1 (lLc mi tm test (eKV mk mv) vs) sDict
section
variable {X : Cx} {W : WX}
variable {kx vx tg iter : Expr} {ifs : List Expr} {scope : Scope} {own : List (Str × Nat)} {vs : List Nat} {pos : Pos} {mi : EM Itm} {tm : TM} {ts : List Nat} {mt : EM Bool} {mk mv : EM D}
end
end HA
namespace HA
open PySem PySem.Spec PyProof.Rows L2
def pairsK (ss : List Str) (z : Str) : List D := (ss.filter fun s => !decide (s = z)).map fun s => .tup [.str s, .bl true]
def lKN (i r j : Nat) : EM (List D) := fun env ah => match env[i]?, env[r]? with
  | some (some (.ref n)), some (some (.str z)) => match ah[n]? with
    | some (.dK kvs) => match optAll keyT (kvs.map (·.1)) with
      | some ss => if ss.length < 4096 ∧ j < env.length then .ok (pairsK ss z) ah else .stuck
      | none => .stuck
    | _ => .stuck
  | _, _ => .stuck
section
variable {X : Cx} {W : WX}
variable {elt tg iter test : Expr} {scope : Scope} {own : List (Str × Nat)} {vs : List Nat} {pos : Pos}
end
end HA
namespace HA
open PySem PySem.Spec PyProof.Rows L2
def sPairF (C : List (Str × List Str)) (mo mo2 : EM D) (f g : Str) (mv : EM D) : SM := fun env ah => (mv env ah).thenS env fun d ah1 => match d with
  | .tup [x, y] => sSeq (sFldS C mo (eC x) f) (sFldS C mo2 (eC y) g) env ah1
  | _ => .stuck
section
variable {X : Cx} {W : WX} {o o2 v : Expr} {pos p1 p2 pt : Pos} {kt : Nat} {mo mo2 mv : EM D}
end
end HA
namespace HA
open PySem PySem.Spec PyProof.Rows L2
abbrev ieT : List Value := [.type "IndexError", .type "LookupError", .type "Exception", .type "BaseException", .type "object"]
structure OexI (K : PySem.W.Frag) (C : Addr) : Prop where
  cls : ∃ nm q N bs sn sub ab col dd k0 k1 k2 k3 k5, K.lookup C = some (excClassObj nm q C N bs ieT true sn sub ab col dd k0 k1 k2 k3 k5 "IndexError.__new__")
  sa : PySem.W.findIn K (.ref C) "__setattr__" = some (some (.builtin "object.__setattr__"))
  exC : PySem.W.subIn K (.ref C) (.type "BaseException") = some true
  tyC : PySem.W.typeIn K (.ref C) = some (.type "type")
  kC : PySem.W.keepIn K (.ref C) = true
end HA
namespace PySem
namespace HAI
open PySem.W PySem.Calls PyProof.Rows PySem.HandSPX
section
open Builtin Builtin.ObjectAttr
variable {prog : Program} {w : World} {A : Around} {R : Result → Shared → Prop} {hp : Heap} {g : Array GenState} {d : Drawn} {t : Nat} {os : OsState}
theorem pass_ie (self : Value) (C : Addr) : refuseLoop self "__setattr__" (.ref C :: HA.ieT) = pure () := by
  rw [refuseLoop_ref]
  exact F.store_IndexError.passes self
theorem osa_first {K : W.Frag} {name : Str} {tk : Tok} {v : Value} {x C : Addr} {fv : Array Value} {cd : ClassData}
    (X : K.In hp) (hx : hp.get? x = some { cls := .ref C, data := .fields fv }) (hcd : W.clsIn K C = some cd) (hm : cd.mro = .ref C :: HA.ieT) (hh : cd.hasDict = true) (no : W.findIn K (.ref C) name = some none)
    (go : ∀ h2 tk2 dx, (∀ b o, b ≠ x → hp.get? b = some o → h2.get? b = some o) → hp.objs.size ≤ dx → dx ≠ x → h2.get? x = some { cls := .ref C, dict := some dx, data := .fields fv } →
      h2.Ns1 dx (fun y => if y = name then some v else none) → R (.ok (.ret .none)) ⟨h2, g, d, tk2, os⟩) :
    codeAny (model prog w) A (.call (.builtin "object.__setattr__") ⟨[.ref x, .str name tk, v], []⟩) R ⟨hp, g, d, t, os⟩ := by
  have I : W.InstAt hp x { cls := .ref C, data := .fields fv } C none := ⟨hx, rfl, rfl, trivial⟩
  have S := F.store_object
  have ne : cd.mro.isEmpty = false := by rw [hm]; rfl
  have ob : cd.mro.contains (.type "object") = true := by
    rw [hm, List.contains_cons, show HA.ieT.contains (.type "object") = true by decide +kernel, Bool.or_true]
  have far : x ≠ hp.objs.size := Nat.ne_of_lt (Heap.lt_size hx)
  have sub : W.Looks (model prog w) hp (isInstance (.ref x) (.type "object")) true := I.type.andThen (W.looks_mroIn X (by unfold W.mroIn; rw [hcd, Option.bind_some, if_neg (by rw [ne]; decide), ob]))
  refine codeAny_call_builtin S.slot.plain S.entry (@W.check_slot (model prog w) _ _ ⟨hp, g, d, t, os⟩ "object.__setattr__" "object" "__setattr__" (.ref x) [.str name tk, v] [] _ S.kind S.split sub (S.args (.ref x) (.str name tk) v) ?_)
  have lm : W.Looks (model prog w) hp (mroOf (.ref C)) cd.mro := (W.looks_clsIn X hcd).andThen .now
  have lt : W.Looks (model prog w) hp (storeTaker? none) none := .now
  have lc : W.Looks (model prog w) hp (classData C) cd := W.looks_clsIn X hcd
  rw [W.osa_eq, refuse_eq]
  refine wpAny_bind (wpAny_bind (I.type.at (wpAny_bind (lm.at ?_))))
  rw [hm, pass_ie]
  refine wpAny_pure (wpAny_bind (I.type.at (wpAny_bind ((W.looks_findIn X no).at (wpAny_bind (lt.at ?_))))))
  show wpAny _ _ (storeInOwnDict (.ref x) (.ref C) (.str name tk) name v false) _ _ _
  obtain ⟨c1, c2, mro, c4, c5, hd, c7, c8, c9, c10, c11⟩ := cd
  dsimp only at hh
  subst hh
  unfold storeInOwnDict ownDictForStores
  repeat (first | with_reducible refine store_in_new ?_ ?_ | with_reducible refine wpAny_loadPart_at hx ?_ | with_reducible refine lc.at ?_ | wp_step)
  · exact ⟨_, #[], _, (Heap.get?_update_ne _ _ _ _ far.symm).trans (Heap.get?_push_at rfl rfl), rfl, fun e he => absurd he (by simp), fun _ => rfl⟩
  · intro h2 tk2 ns sb
    have hx2 : (hp.push { cls := .type "dict", data := .dict #[] }).get? x = some { cls := .ref C, data := .fields fv } := Heap.get?_push_of_some _ hx
    refine go h2 tk2 hp.objs.size (fun b o hb ho => ?_) (Nat.le_refl _) far.symm ?_ ns
    · exact (sb.2 b (Nat.ne_of_lt (Heap.lt_size ho))).trans ((Heap.get?_update_ne _ _ _ _ hb).trans (Heap.get?_push_of_some _ ho))
    · exact (sb.2 x far).trans (Heap.get?_update_self _ hx2 rfl)
end
end HAI
end PySem
namespace HA
open PySem PySem.Spec PyProof.Rows L2
section
variable {X : Cx} {pins : List (Addr × Obj)} {σ : L2.St} {H : Hp} {s : Shared} {a C : Addr} {f : Str} {y : V} {u : Value}
theorem ost_ie {Q : Unit → Shared → Prop} {E : Value → Shared → Prop} {A : Around} (T : OexI X.K C) (I : Inv X pins σ H s) (e : H a = some (exo a C none)) (no : PySem.W.findIn X.K (.ref C) f = some none) (ry : RelV y u)
    (go : ∀ dx s', H dx = none → dx ≠ a → Inv X pins σ (upd (upd H dx (exd dx [(f, y)])) a (exo a C (some dx))) s' → Q () s') : wpAny (model X.prog X.w) A (setAttr (.ref a) f u) Q E s := by
  obtain ⟨nm, q, N, bs, sn, sub, ab, col, dd, k0, k1, k2, k3, k5, hC⟩ := T.cls
  have hcl : PySem.W.clsIn X.K C = some { name := nm, bases := bs, mro := .ref C :: ieT, ns := N, qualname := q, hasDict := true, slotNames := sn, subclasses := sub, abstract := ab, collection := col, hasDel := false } := by
    unfold PySem.W.clsIn
    rw [hC] <;> rfl
  obtain ⟨t1, ho⟩ := exo_at I.hok e
  obtain ⟨hp, g, d, t, os⟩ := s
  refine PySem.W.set_plain I.kIn (ox := { cls := .ref C, dict := none, data := .fields #[.ref t1, .none, .none, .none, .bool false, .none] }) (od := none) ⟨ho, rfl, rfl, trivial⟩ T.sa ?_
  refine PySem.HAI.osa_first I.kIn ho hcl rfl rfl no (fun h' tk' dx k dn dne hx hn => ?_)
  have fresh : H dx = none := I.hok.fresh dn
  have nd : ∀ {b : Addr} {o : Obj}, hp.get? b = some o → b ≠ dx := fun {b o} q => Nat.ne_of_lt (Nat.lt_of_lt_of_le (Heap.lt_size q) dn)
  have na : ∀ {b : Addr}, H b = none → b ≠ a := fun {b} n z => by rw [z, e] at n; cases n
  have U1 : Un X.fs [] H (upd (upd H dx (exd dx [(f, y)])) a (exo a C (some dx))) hp h' := by
    refine { keep := fun b o q n _ _ => k b o (na n) q, slot := fun b o q n _ _ => ⟨o.slots, k b o (na n) q⟩, free := fun b o q n _ => ?_, there := fun b o q _ => ?_, tups := fun b xs q => ?_, frzs := fun b o v q => ?_, tbls := fun b ps q => ⟨#[], ?_⟩ }
    · rw [upd_ne (na n), upd_ne (nd q)]
      exact n
    · by_cases hb : b = a
      · subst hb
        exact ⟨_, hx⟩
      · exact ⟨o, k b o hb q⟩
    · rw [upd_ne (at_ne e q exo_tup), upd_ne (ne_of_none q fresh)]
      exact q
    · rw [upd_ne (at_ne e q exo_frz), upd_ne (ne_of_none q fresh)]
      exact q
    · rw [upd_ne (at_ne e q exo_tbl), upd_ne (ne_of_none q fresh), q]
      simp
  refine go dx _ fresh dne (I.un (t' := tk') U1 fun b o q => ?_)
  by_cases hb : b = a
  · subst hb
    rw [upd_same] at q
    cases q
    exact exo_ok hx
  rw [upd_ne hb] at q
  by_cases hd : b = dx
  · subst hd
    rw [upd_same] at q
    cases q
    exact exd_ok hn (relO_put (fs := []) ry fun g => True.intro)
  rw [upd_ne hd] at q
  refine (I.hok b o q).stay (fun c v hc z => k c v ?_ z) (fun c hc => ?_) (fun c xs hc => ?_)
  · rcases hc with hc | hc
    · rw [hc]
      exact hb
    · exact at_ne e hc exo_own
  · rw [upd_ne (at_ne e hc exo_own), upd_ne (ne_of_none hc fresh)]
    exact hc
  · rw [upd_ne (at_ne e hc exo_tup), upd_ne (ne_of_none hc fresh)]
    exact hc
theorem oinit_ie {us : List Value} {Q : Value → Shared → Prop} {E : Value → Shared → Prop} {A : Around} (T : OexI X.K C) (I : Inv X pins σ H s) (e : H a = some (exo a C none)) (hl : us.length ≤ sizeLine) (go : ∀ s', Inv X pins σ H s' → Q .none s') :
    wpAny (model X.prog X.w) A (call (.builtin "IndexError.__init__") (.ref a :: us)) Q E s := by
  obtain ⟨nm, q, N, bs, sn, sub, ab, col, dd, k0, k1, k2, k3, k5, hC⟩ := T.cls
  obtain ⟨t1, ho⟩ := exo_at I.hok e
  obtain ⟨hp, g, d, t, os⟩ := s
  refine wpAny_call (PySem.HandSPX.init_base F.excBase_IndexError (fun _ => rfl) (I.kIn _ _ hC) ho hl fun h' t2 k hx => ?_)
  have J := I.write (t' := t) (x := a) (e := a) (o := exo a C none) (by rw [e]; exact True.intro) (.inl rfl) k ⟨_, hx⟩ (exo_ok hx)
  have same : upd H a (exo a C none) = H := by
    funext b
    by_cases hb : b = a
    · rw [hb, upd_same, e]
    · rw [upd_ne hb]
  rw [same] at J
  exact go _ J
end
def tIeI (K : PySem.W.Frag) (ta : TA) : TE := fun σ H Q => ta σ H fun vs H1 => ∃ (a C : Addr) (ws : List V), vs = .ref a :: ws ∧ ws.length ≤ 1000 ∧ OexI K C ∧ H1 a = some (exo a C none) ∧ Q .non H1
def tIeF (K : PySem.W.Frag) (f : Str) (to te : TE) : TS := fun D σ H => te σ H fun y H1 => to σ H1 fun x H2 => ∃ a C : Addr, x = .ref a ∧ OexI K C ∧ PySem.W.findIn K (.ref C) f = some none ∧
  (H2 a = some (exo a C none) ∧ ∀ dx, H2 dx = none → dx ≠ a → D.nx σ (upd (upd H2 dx (exd dx [(f, y)])) a (exo a C (some dx))))
section
variable {X : Cx} {o e : Expr} {es : List Expr} {to te : TE} {ta : TA} {f : Str} {p p' p1 p2 pos : Pos}
theorem typ_IE : typeOf (.type "IndexError") = pure (.type "type") := by kernel_rfl
theorem pe_ieI (hg : Gl X "IndexError") (hm : X.mg "IndexError" = none) (vV : PySem.W.findCls X.K (.type "IndexError") (.type "type") "__init__" = some (.val (.builtin "IndexError.__init__"))) (ha : PA X (e :: es) ta) (hc : UpAsk (.Name "IndexError" p1) e es p2 pos X.env)
    (he : starEach (e :: es) X.env = (false, eval e X.env) :: starEach es X.env := by rfl) (hpl : (backTo pos (starEach es X.env)).any (·.1) = false := by rfl) :
    PE X (.Call (.Attribute (.Name "IndexError" p1) "__init__" p2) (e :: es) [] pos) (tIeI X.K ta) := by
  refine ⟨fun pins s σ H Q I h => ?_⟩
  obtain ⟨pl, hc⟩ := hc
  refine PySem.W.methodCall_KW (pl := pl) (ld_blt I hg hm PyProof.Rows.Boot.«IndexError» ?_ (by decide) (by decide)) hc
  obtain ⟨m, fr⟩ := I.fr
  refine PySem.W.method_type fr I.ok.mod.kin typ_IE (by decide +kernel) vV (by decide +kernel) ?_
  show wpAny _ _ (callWith pos (Value.builtin "IndexError.__init__") [] (backTo pos (starEach (e :: es) X.env)) []) _ _ _
  refine PyProof.Rows.callWith_method1 (thn (ha.run pos pins _ σ H _ (I.tok _) h) fun us s1 z => ?_) he hpl
  obtain ⟨vs, H1, I1, r1, a, C, ws, ev, hl, T, ea, q⟩ := z
  subst ev
  cases r1 with
  | @cons _ u0 _ ur ra rw' =>
    cases ra
    refine oinit_ie T I1 ea ?_ fun s' J => ⟨.non, H1, J, rfl, q⟩
    have := Paired.length rw'
    rw [sizeLine_eq]
    omega
theorem ps_ieF (ho : PE X o to) (he : PE X e te) (hs : swapsWith e (some (.Attribute o f p')) pos.line X.env = pure false := by rfl) : PS X (.Assign [.Attribute o f p'] e pos) (tIeF X.K f to te) := by
  refine ⟨fun pins s σ H D I h => ?_⟩
  refine plainObj_wpAny_Assign_Attribute (thn (he.run pins s σ H _ I h) fun v s1 z1 => ?_) hs
  obtain ⟨y, H1, I1, r1, q1⟩ := z1
  refine thn (ho.run pins s1 σ H1 _ I1 q1) fun u s2 z2 => ?_
  obtain ⟨x, H2, I2, r2, a, C, ex, T, hno, ea, q⟩ := z2
  subst ex
  cases r2
  exact ost_ie T I2 ea hno r1 fun dx s' n ne J => ⟨σ, _, J, q dx n ne⟩
end
structure XTI (K : PySem.W.Frag) (mg : Str → Option Value) (x f : Str) : Prop where
  gC : mg x = some (.ref (gA K x))
  oex : OexI K (gA K x)
  noF : PySem.W.findIn K (.ref (gA K x)) f = some none
  ini : ∃ (fI : Addr) (fd : FuncData) (qual : Str) (st : Stmt) (txt : Str) (j : Nat) (p1 p2 p3 p4 p5 p6 p7 p8 p9 p10 : Pos), PySem.W.findIn K (.ref (gA K x)) "__init__" = some (some (.ref fI)) ∧ PySem.W.typeIn K (.ref fI) = some (.type "function") ∧
    Fun K "__init__" qual st fI fd ∧ FnScope [("self" : Str), f] [("self" : Str), f] (defScope st) ∧ Binds K fd [("self" : Str), f] [] ∧ PySem.W.findCls K (.type "IndexError") (.type "type") "__init__" = some (.val (.builtin "IndexError.__init__")) ∧ mg "IndexError" = none ∧ (f == ("__debug__" : Str)) = false ∧ (f == ("__classdict__" : Str)) = false ∧
    (defScope st).names.lookup ("self" : Str) = some NameKind.local ∧ (defScope st).names.lookup f = some NameKind.local ∧ (defScope st).names.lookup ("IndexError" : Str) = some NameKind.globalImplicit ∧
    (∀ env, UpAsk (.Name "IndexError" p1) (.Name "self" p3) [.Constant (.str txt) j p4] p2 p5 env) ∧
    defBody st = [.Expr (.Call (.Attribute (.Name "IndexError" p1) "__init__" p2) [.Name "self" p3, .Constant (.str txt) j p4] [] p5) p6, .Assign [.Attribute (.Name "self" p7) f p8] (.Name f p9) p10]
section
variable {P : Program} {w : World} {K : PySem.W.Frag} {mg : Str → Option Value} {base : Heap} {x f : Str}
theorem XTI.fn (T : XTI K mg x f) : ∃ (fI : Addr) (fd : FuncData), PySem.W.findIn K (.ref (gA K x)) "__init__" = some (some (.ref fI)) ∧ PySem.W.typeIn K (.ref fI) = some (.type "function") ∧
    FnOk P w K mg base (L2.CX P w) 1 fI fd ["self", f] (spX K (gA K x) f) ∧ Binds K fd ["self", f] [] := by
  obtain ⟨fI, fd, qual, st, txt, j, p1, p2, p3, p4, p5, p6, p7, p8, p9, p10, h1, h2, F, S, B, hV, gy, df, cf, ls, lf, ly, hc, hb⟩ := T.ini
  refine ⟨fI, fd, h1, h2, F.okX S (fun vs H Q E ⟨a, v, e, _⟩ => by rw [e]; rfl) (fun cdv A outer s H vs Q E hr z => ?_), B⟩
  obtain ⟨a, v, ev, ha, hq⟩ := z
  subst ev
  rw [hb]
  refine ⟨_, pss_cons (ps_expr (pe_ieI (show Gl _ _ from ly) gy hV (pa_cons (pv 0 rfl (.inl ls)) (pa_cons pe_str pa_nil)) (hc _))) (pss_one (ps_ieF (pv 0 rfl (.inl ls)) (pv 1 rfl (.inl lf) df cf))), ?_⟩
  refine ⟨_, rfl, ?_⟩
  refine ⟨a, gA K x, [.str txt], rfl, Nat.le_of_ble_eq_true rfl, T.oex, ha, ?_⟩
  refine ⟨_, rfl, ?_⟩
  exact ⟨_, rfl, a, gA K x, rfl, T.oex, T.noF, ha, fun dx n1 n2 => hq dx n1 n2⟩
end
section
variable {X : Cx} {W : WX} {k : Nat} {x f : Str} {e : Expr} {ml : EM (List D)} {p pos rp : Pos}
end
section
variable {K : PySem.W.Frag} {h : Heap} {mg : Str → Option Value}
end
end HA
namespace HA
open PySem PySem.Spec PyProof.Rows L2
section
variable {X : Cx}
end
section
variable {X : Cx} {W : WX} {o lo v : Expr} {mo mi mv : EM D} {pos pos' p2 : Pos}
end
end HA
namespace HA
open PySem PySem.Spec PyProof.Rows L2
def tDP : TSet := fun o i v H k => ∃ (a : Addr) (H' : Hp), o = .ref a ∧ DPut H a i v H' ∧ k H'
def sPairP (mo mi mo2 mi2 mv : EM D) : SM := fun env ah => (mv env ah).thenS env fun d ah1 => match d with
  | .tup [x, y] => sSeq (sPut mo mi (eC x)) (sPut mo2 mi2 (eC y)) env ah1
  | _ => .stuck
section
variable {X : Cx} {W : WX} {o o2 i i2 v : Expr} {pos p1 p2 pt : Pos} {kt k : Nat} {mo mo2 mi mi2 mv : EM D} {d : D}
end
end HA
namespace HA
open PySem PySem.Spec PyProof.Rows L2
section
variable {X : Cx} {body : List Stmt} {h0 : ExceptHandler} {hs : List ExceptHandler} {l : List (Value × Option Nat × Sui)} {pos : Pos} {tb : WX → TS} {Wo : WX}
end
section
variable {X : Cx} {W : WX} {body : List Stmt} {h0 : ExceptHandler} {hs : List ExceptHandler} {l : List Hnd} {t : STab} {mb : SM} {pos : Pos}
end
end HA
namespace HZ
open PySem PySem.Spec PyProof.Rows L2
open PySem.W (kdx_alive)
section
variable {prog : Program} {w : World} {A : Around} {E : Value → Shared → Prop} {s : Shared} {z TI TO i1 i2 T : Addr} {fp1 fp2 : List Addr} {n i : Nat} {P1 P2 : Nat → Value → Prop} {St1 St2 : Nat → Heap → Prop} {f : Bool} {oT : Obj}
theorem held_item {Q : Value → Shared → Prop} (S : ZipSep2 z TI TO i1 i2 fp1 fp2) (D1 : Draws prog w A i1 fp1 n P1 St1) (D2 : Draws prog w A i2 fp2 n P2 St2)
    (hz : IsZipHeld s.heap z TI TO T f) (hT : s.heap.get? T = some oT) (hI : IsTupOf2 s.heap TI (.ref i1) (.ref i2)) (t1 : St1 i s.heap) (t2 : St2 i s.heap) (l : i < n)
    (hQ : ∀ x1 x2 h' tk, P1 i x1 → P2 i x2 → IsZipHeld h' z TI TO T true → St1 (i + 1) h' → St2 (i + 1) h' → IsTupOf2 h' s.heap.objs.size x1 x2 →
      (∀ c o, c ≠ z → c ≠ i1 → c ≠ i2 → s.heap.get? c = some o → h'.get? c = some o) → Q (.ref s.heap.objs.size) { s with heap := h', toks := tk }) :
    wpAny (model prog w) A (Builtin.«zip.__next__» ⟨[.ref z], []⟩) (fun fin s' => ∃ v, fin = .done (.ret v) ∧ Q v s') E s := by
  obtain ⟨h0, gs, dr, tk0, os⟩ := s
  show wpAny _ _ (field (.ref z) 2 >>= _) _ _ _
  refine wpAny_bind (wpAny_field hz rfl (x := .bool false) rfl ?_)
  show wpAny _ _ (field (.ref z) 3 >>= _) _ _ _
  refine wpAny_bind (wpAny_field hz rfl (x := .ref TI) rfl (wpAny_bind (wpAny_seqItems hI rfl ?_)))
  show wpAny _ _ (Builtin.SmallTypes.ownedTupleIsFree (.ref z) >>= _) _ _ _
  refine wpAny_bind (wpAny_tupleHeld_zip (s := ⟨h0, gs, dr, tk0, os⟩) hz hT fun u1 z1 s1 => ?_)
  have s1 : Heap.SameBut z h0 u1 := s1
  simp only [Bool.false_eq_true, if_false]
  refine wpAny_bind ?_
  rw [← Array.forIn_toList]
  simp only [List.forIn_cons, List.forIn_nil]
  refine wpAny_bind (wpAny_bind (wpAny_holding ?_))
  show wpAny _ _ (Builtin.SmallTypes.nextOf (.ref i1) >>= _) _ _ _
  refine wpAny_bind (D1.item i ⟨u1, gs, dr, tk0, os⟩ _ _ l (D1.over t1 s1 S.zf1) fun x1 u2 k1 y1 q1 s2 => wpAny_pure ?_)
  have s2 : Heap.SameBut i1 u1 u2 := s2
  refine wpAny_pure ?_
  refine wpAny_bind (wpAny_bind (wpAny_holding ?_))
  show wpAny _ _ (Builtin.SmallTypes.nextOf (.ref i2) >>= _) _ _ _
  refine wpAny_bind (D2.item i ⟨u2, gs, dr, k1, os⟩ _ _ l (D2.over (D2.over t2 s1 S.zf2) s2 S.sep1_2) fun x2 u3 k2 y2 q2 s3 => wpAny_pure ?_)
  have s3 : Heap.SameBut i2 u2 u3 := s3
  refine wpAny_pure (wpAny_pure ?_)
  show wpAny _ _ (newTuple [x1, x2] >>= _) _ _ _
  refine wpAny_bind (wpAny_newTuple ?_)
  have sz : u3.objs.size = h0.objs.size := by rw [s3.1, s2.1, s1.1]
  have z3 : IsZipHeld u3 z TI TO T true := s3.extBut _ _ S.zi2 (s2.extBut _ _ S.zi1 z1)
  have kp : ∀ c o, c ≠ z → c ≠ i1 → c ≠ i2 → h0.get? c = some o → u3.get? c = some o := fun c o c1 c2 c3 e => s3.extBut _ _ c3 (s2.extBut _ _ c2 (s1.extBut _ _ c1 e))
  have q1 : St1 (i + 1) u3 := D1.over q1 s3 S.sep2_1
  refine wpAny_pure ⟨_, rfl, ?_⟩
  show Q (.ref u3.objs.size) _
  have nt : IsTupOf2 (u3.push { cls := .type "tuple", data := .seq #[x1, x2] }) u3.objs.size x1 x2 := Heap.get?_push_size _ rfl
  rw [sz] at nt ⊢
  exact hQ x1 x2 _ k2 y1 y2 (Heap.get?_push_of_some _ z3) (D1.frame _ _ _ q1 fun b _ o e => Heap.get?_push_of_some _ e) (D2.frame _ _ _ q2 fun b _ o e => Heap.get?_push_of_some _ e) nt fun c o c1 c2 c3 e => Heap.get?_push_of_some _ (kp c o c1 c2 c3 e)
theorem held_end {Q : Fin → Shared → Prop} (S : ZipSep2 z TI TO i1 i2 fp1 fp2) (D1 : Draws prog w A i1 fp1 n P1 St1) (D2 : Draws prog w A i2 fp2 n P2 St2)
    (hz : IsZipHeld s.heap z TI TO T f) (hT : s.heap.get? T = some oT) (hI : IsTupOf2 s.heap TI (.ref i1) (.ref i2)) (t1 : St1 n s.heap)
    (hE : ∀ h' e, (∀ c o, c ≠ z → c ≠ i1 → s.heap.get? c = some o → h'.get? c = some o) → (∃ o, h'.get? e = some o ∧ o.cls = .type "StopIteration") → E (.ref e) { s with heap := h' }) :
    wpAny (model prog w) A (Builtin.«zip.__next__» ⟨[.ref z], []⟩) Q E s := by
  obtain ⟨h0, gs, dr, tk0, os⟩ := s
  show wpAny _ _ (field (.ref z) 2 >>= _) _ _ _
  refine wpAny_bind (wpAny_field hz rfl (x := .bool false) rfl ?_)
  show wpAny _ _ (field (.ref z) 3 >>= _) _ _ _
  refine wpAny_bind (wpAny_field hz rfl (x := .ref TI) rfl (wpAny_bind (wpAny_seqItems hI rfl ?_)))
  show wpAny _ _ (Builtin.SmallTypes.ownedTupleIsFree (.ref z) >>= _) _ _ _
  refine wpAny_bind (wpAny_tupleHeld_zip (s := ⟨h0, gs, dr, tk0, os⟩) hz hT fun u1 z1 s1 => ?_)
  have s1 : Heap.SameBut z h0 u1 := s1
  simp only [Bool.false_eq_true, if_false]
  refine wpAny_bind ?_
  rw [← Array.forIn_toList]
  simp only [List.forIn_cons, List.forIn_nil]
  refine wpAny_bind (wpAny_bind (wpAny_holding ?_))
  show wpAny _ _ (Builtin.SmallTypes.nextOf (.ref i1) >>= _) _ _ _
  refine wpAny_bind (D1.done ⟨u1, gs, dr, tk0, os⟩ _ _ (D1.over t1 s1 S.zf1) fun h' e hk he => ?_)
  exact hE h' e (fun c o c1 c2 x => hk _ _ c2 (s1.extBut _ _ c1 x)) he
theorem pyNext_held {Q : Option Value → Shared → Prop} (S : ZipSep2 z TI TO i1 i2 fp1 fp2) (D1 : Draws prog w A.in1 i1 fp1 n P1 St1) (D2 : Draws prog w A.in1 i2 fp2 n P2 St2)
    (hz : IsZipHeld s.heap z TI TO T f) (hT : s.heap.get? T = some oT) (hI : IsTupOf2 s.heap TI (.ref i1) (.ref i2)) (t1 : St1 i s.heap) (t2 : St2 i s.heap) (l : i < n)
    (hQ : ∀ x1 x2 h' tk, P1 i x1 → P2 i x2 → IsZipHeld h' z TI TO T true → St1 (i + 1) h' → St2 (i + 1) h' → IsTupOf2 h' s.heap.objs.size x1 x2 →
      (∀ c o, c ≠ z → c ≠ i1 → c ≠ i2 → s.heap.get? c = some o → h'.get? c = some o) → Q (some (.ref s.heap.objs.size)) { s with heap := h', toks := tk }) : wpAny (model prog w) A (pyNext (.ref z)) Q E s := by
  have hTy : s.TypeIs (.ref z) "zip" := ⟨_, hz, rfl⟩
  unfold pyNext
  exact wpAny_bind (wpAny_attempt (wpAny_callSpecial?_slot (name := Str.ofString "__next__") hTy F.slot_zip_next
    (wpAny_call_entry F.slot_zip_next hTy F.entry_zip_next (held_item S D1 D2 hz hT hI t1 t2 l fun x1 x2 h' tk a b c d e g k => wpAny_pure (hQ x1 x2 h' tk a b c d e g k)) (F.args_zip_next_1 _))))
theorem pyNext_heldEnd {Q : Option Value → Shared → Prop} (S : ZipSep2 z TI TO i1 i2 fp1 fp2) (D1 : Draws prog w A.in1 i1 fp1 n P1 St1) (D2 : Draws prog w A.in1 i2 fp2 n P2 St2)
    (hz : IsZipHeld s.heap z TI TO T f) (hT : s.heap.get? T = some oT) (hI : IsTupOf2 s.heap TI (.ref i1) (.ref i2)) (t1 : St1 n s.heap)
    (hQ : ∀ h', (∀ c o, c ≠ z → c ≠ i1 → s.heap.get? c = some o → h'.get? c = some o) → Q none { s with heap := h' }) : wpAny (model prog w) A (pyNext (.ref z)) Q E s := by
  have hTy : s.TypeIs (.ref z) "zip" := ⟨_, hz, rfl⟩
  unfold pyNext
  refine wpAny_bind (wpAny_attempt (wpAny_callSpecial?_slot (name := Str.ofString "__next__") hTy F.slot_zip_next
    (wpAny_call_entry F.slot_zip_next hTy F.entry_zip_next (held_end S D1 D2 hz hT hI t1 fun h' e hk he => ?_) (F.args_zip_next_1 _))))
  obtain ⟨o, ho, hc⟩ := he
  exact wpAny_bind (wpAny_isInstance (T := "StopIteration") (b := true) ⟨o, ho, hc⟩ isSubtype_stop (wpAny_pure (hQ _ hk)))
end
theorem news {X : Cx} {pins : List (Addr × Obj)} {σ : L2.St} {H H' : Hp} {s : Shared} {h' : Heap} {t' : Nat} {ch : List Addr} (I : Inv X pins σ H s) (k : ∀ b o, b ∉ ch → s.heap.get? b = some o → h'.get? b = some o) (hf : ∀ b ∈ ch, FpOk X pins H b) (old : ∀ b, b < s.heap.objs.size → H' b = H b)
    (new : ∀ b o, s.heap.objs.size ≤ b → H' b = some o → ObjOk X.prog X.w H' h' b o) : Inv X pins σ H' { s with heap := h', toks := t' } := by
  have lt : ∀ {b o}, H b = some o → b < s.heap.objs.size := fun {b o} e => by
    rcases Nat.lt_or_ge b s.heap.objs.size with h | h
    · exact h
    · rw [I.hok.fresh h] at e; cases e
  have same : ∀ {b o}, H b = some o → H' b = some o := fun {b o} e => by rw [old b (lt e)]; exact e
  have nit : ∀ b u, H b = some u → b ∉ ch := fun b u e z => by
    have q := (hf b z).1
    rw [q] at e; cases e
  refine I.step (g' := s.gens) (d' := s.drawn) (ch := ch) (fun b hb => ⟨(hf b hb).2.2.2.1, (hf b hb).2.1, (hf b hb).2.2.2.2.1, (hf b hb).2.2.2.2.2⟩) (fun b o _ _ hc e _ => k b o hc e) (fun b o _ _ hc e _ => ⟨o.slots, k b o hc e⟩)
    (fun b o _ e n => ?_) (fun b o hc e => ⟨o, k b o hc e⟩) (fun b xs e => same e) (fun b o u e => same e) (fun b ps e => ⟨#[], by rw [same e]; simp⟩) (fun m hm => ?_) (fun b u e => ?_) I.bare
  · rw [old b (Heap.lt_size e)]; exact n
  · obtain ⟨o, es, ep, ho, r⟩ := hm
    exact ⟨o, es, ep, k _ o (fun z => (hf _ z).2.1 rfl) ho, r⟩
  · rcases Nat.lt_or_ge b s.heap.objs.size with hb | hb
    · rw [old b hb] at e
      refine (I.hok b u e).stay (fun c v hc q => k c v ?_ q) (fun c q => same q) fun c xs q => same q
      rcases hc with z | z
      · rw [z]; exact nit b u e
      · exact nit c _ z
    · exact new b u hb e
def ZS (h : Heap) (z TI TO : Addr) : Prop := zrec false h z TI TO .none ∨ ∃ (T : Addr) (f : Bool) (o : Obj), IsZipHeld h z TI TO T f ∧ h.get? T = some o
inductive Prd (h : Heap) (base : Nat) (P1 P2 : Nat → Value → Prop) : List Value → Nat → Nat → Prop
  | nil : Prd h base P1 P2 [] 0 base
  | snoc {acc : List Value} {i hi T : Nat} {x y : Value} (p : Prd h base P1 P2 acc i hi) (l : hi ≤ T) (hx : P1 i x) (hy : P2 i y) (ht : IsTupOf2 h T x y) : Prd h base P1 P2 (acc ++ [.ref T]) (i + 1) (T + 1)
theorem Prd.ge {h : Heap} {base : Nat} {P1 P2 : Nat → Value → Prop} {acc : List Value} {i hi : Nat} (p : Prd h base P1 P2 acc i hi) : base ≤ hi := by
  induction p with
  | nil => exact Nat.le_refl _
  | snoc p l _ _ _ ih => exact Nat.le_trans ih (Nat.le_trans l (Nat.le_succ _))
theorem Prd.keep {h h' : Heap} {base : Nat} {P1 P2 : Nat → Value → Prop} {acc : List Value} {i hi : Nat} (p : Prd h base P1 P2 acc i hi) (k : ∀ b o, base ≤ b → h.get? b = some o → h'.get? b = some o) : Prd h' base P1 P2 acc i hi := by
  induction p with
  | nil => exact .nil
  | snoc p l hx hy ht ih => exact .snoc ih l hx hy (k _ _ (Nat.le_trans p.ge l) ht)
theorem Prd.len {h : Heap} {base : Nat} {P1 P2 : Nat → Value → Prop} {acc : List Value} {i hi : Nat} (p : Prd h base P1 P2 acc i hi) : acc.length = i := by
  induction p with
  | nil => rfl
  | snoc p l hx hy ht ih => simp [ih]
section
variable {prog : Program} {w : World} {A : Around} {R : Result → Shared → Prop} {z TI TO i1 i2 L : Addr} {fp1 fp2 : List Addr} {n base : Nat} {P1 P2 : Nat → Value → Prop} {St1 St2 : Nat → Heap → Prop}
theorem ext_zip (S : ZipSep2 z TI TO i1 i2 fp1 fp2) (D1 : Draws prog w A.in1.in1 i1 fp1 n P1 St1) (D2 : Draws prog w A.in1.in1 i2 fp2 n P2 St2) (hn : n ≤ sizeLine) (res : Value) (lz : z < base) (lT : TO < base) (l1 : i1 < base) (l2 : i2 < base) (lL : L < base) (lI : TI < base)
    (L1 : L ∉ fp1) (L2 : L ∉ fp2) (Lz : L ≠ z) (LT : L ≠ TO) (LI : L ≠ TI) :
    ∀ (k i hi : Nat) (s : Shared) (acc : List Value) (c : Nat), n - i = k → i ≤ n → ZS s.heap z TI TO → IsTupOf2 s.heap TI (.ref i1) (.ref i2) → (∃ a1 a2, IsTupOf2 s.heap TO a1 a2) → St1 i s.heap → St2 i s.heap → s.heap.get? L = some { cls := .type "list", dict := none, data := .seq acc.toArray c, slots := #[] } →
      Prd s.heap base P1 P2 acc i hi → hi ≤ s.heap.objs.size → base ≤ s.heap.objs.size →
      (∀ s' acc' c' hi', (∀ b o, b ≠ L → b ≠ z → b ≠ TO → b ≠ i1 → b ≠ i2 → s.heap.get? b = some o → s'.heap.get? b = some o) → s'.gens = s.gens → s'.drawn = s.drawn → s'.os = s.os → s'.heap.get? L = some { cls := .type "list", dict := none, data := .seq (acc' : List Value).toArray c', slots := #[] } → Prd s'.heap base P1 P2 acc' n hi' → R (.ok (.ret res)) s') →
      codeAny (model prog w) A (.builtin "list.extend.loop" ⟨[.ref L, .ref z, res], []⟩) R s := by
  intro k
  have Li1 : L ≠ i1 := fun e => L1 (e ▸ S.mem1)
  have Li2 : L ≠ i2 := fun e => L2 (e ▸ S.mem2)
  induction k with
  | zero =>
    intro i hi s acc c hk hin hz hI hO t1 t2 hL hp hs hb hR
    have e : i = n := by omega
    subst e
    refine codeAny_builtin F.entry_extend_loop ?_
    rw [Around.under_plainId F.plain_extend_loop _]
    show wpAny _ A.in1 (pyNext (.ref z) >>= _) _ _ s
    have fin : ∀ h' tk, (∀ c o, c ≠ z → c ≠ TO → c ≠ i1 → c ≠ i2 → s.heap.get? c = some o → h'.get? c = some o) → R (.ok (.ret res)) { s with heap := h', toks := tk } := fun h' tk kp => by
      refine hR { s with heap := h', toks := tk } acc c hi (fun b o _ b2 b3 b4 b5 e => kp b o b2 b3 b4 b5 e) rfl rfl rfl (kp _ _ Lz LT Li1 Li2 hL) (hp.keep fun b o hb2 e => kp b o ?_ ?_ ?_ ?_ e)
      · exact Nat.ne_of_gt (Nat.lt_of_lt_of_le lz hb2)
      · exact Nat.ne_of_gt (Nat.lt_of_lt_of_le lT hb2)
      · exact Nat.ne_of_gt (Nat.lt_of_lt_of_le l1 hb2)
      · exact Nat.ne_of_gt (Nat.lt_of_lt_of_le l2 hb2)
    rcases hz with hz | ⟨T, f, oT, hz, hT⟩
    · obtain ⟨a1, a2, hO⟩ := hO
      refine wpAny_bind (wpAny_pyNext_zipD2_end S D1 D2 hz hI hO t1 t2 (Nat.le_refl _) (Nat.le_refl _) (.inl rfl) fun h' tk kp => ?_)
      exact wpAny_pure (fin h' tk kp)
    · refine wpAny_bind (pyNext_heldEnd S D1 D2 hz hT hI t1 fun h' kp => ?_)
      exact wpAny_pure (fin h' s.toks fun c o c1 _ c3 _ e => kp c o c1 c3 e)
  | succ k ih =>
    intro i hi s acc c hk hin hz hI hO t1 t2 hL hp hs hb hR
    have lt : i < n := by omega
    have al := hp.len
    refine codeAny_builtin F.entry_extend_loop ?_
    rw [Around.under_plainId F.plain_extend_loop _]
    show wpAny _ A.in1 (pyNext (.ref z) >>= _) _ _ s
    have fin : ∀ x1 x2 h' tk, P1 i x1 → P2 i x2 → ZS h' z TI TO → (∃ a1 a2, IsTupOf2 h' TO a1 a2) → St1 (i + 1) h' → St2 (i + 1) h' → IsTupOf2 h' s.heap.objs.size x1 x2 → (∀ c o, c ≠ z → c ≠ TO → c ≠ i1 → c ≠ i2 → s.heap.get? c = some o → h'.get? c = some o) →
        wpAny (model prog w) A.in1 (updateSeq L (·.push (.ref s.heap.objs.size)) >>= fun _ => again (.builtin "list.extend.loop" ⟨[.ref L, .ref z, res], []⟩))
          (fun fin s' => match fin with | .done f => R (.ok f) s' | .again c' => c'.quiet = true ∧ codeAny (model prog w) A c' R s') (fun e s' => R (.error e) s') { s with heap := h', toks := tk } := fun x1 x2 h' tk y1 y2 zs o' q1 q2 nt kp => by
      have hL' : h'.get? L = some { cls := .type "list", dict := none, data := .seq acc.toArray c, slots := #[] } := kp _ _ Lz LT Li1 Li2 hL
      have sz' : s.heap.objs.size < h'.objs.size := Heap.lt_size nt
      have hI' := kp _ _ S.TIz S.TITO S.TIi1 S.TIi2 hI
      refine wpAny_bind (wpAny_updateSeq (s := { s with heap := h', toks := tk }) hL' rfl (wpAny_pure ⟨plainId_quiet F.plain_extend_loop _, ?_⟩) (by simp [al]; omega) (by show (acc.toArray.push _).size ≤ sizeLine + 1; simp [al]; omega))
      have up : ∀ b o, b ≠ L → h'.get? b = some o → (h'.update L (Obj.mapSeq (·.push (.ref s.heap.objs.size)))).get? b = some o := fun b o hb e => (Heap.get?_update_other _ _ (Ne.symm hb)).trans e
      have lb : s.heap.objs.size ≤ (h'.update L (Obj.mapSeq (·.push (.ref s.heap.objs.size)))).objs.size := Nat.le_of_lt (Heap.lt_size (up _ _ (Nat.ne_of_gt (Nat.lt_of_lt_of_le lL hb)) nt))
      have ep : (acc ++ [Value.ref s.heap.objs.size]).toArray = acc.toArray.push (.ref s.heap.objs.size) := by simp
      have hL2 := Heap.get?_update_self (Obj.mapSeq (·.push (.ref s.heap.objs.size))) hL' rfl
      refine ih (i + 1) (s.heap.objs.size + 1) { s with heap := h'.update L (Obj.mapSeq (·.push (.ref s.heap.objs.size))), toks := tk } (acc ++ [.ref s.heap.objs.size]) _ (by omega) lt ?_ (up _ _ (Ne.symm LI) hI') ?_ (D1.frame _ _ _ q1 fun b hb o e => up b o (fun z => L1 (z ▸ hb)) e) (D2.frame _ _ _ q2 fun b hb o e => up b o (fun z => L2 (z ▸ hb)) e) (by rw [ep]; exact hL2) ?_ ?_ (Nat.le_trans hb lb) ?_
      · rcases zs with hz | ⟨T, f, oT, hz, hT⟩
        · exact .inl (up _ _ (Ne.symm Lz) hz)
        · by_cases hTL : T = L
          · subst hTL
            exact .inr ⟨T, f, _, up _ _ (Ne.symm Lz) hz, hL2⟩
          · exact .inr ⟨T, f, oT, up _ _ (Ne.symm Lz) hz, up _ _ hTL hT⟩
      · obtain ⟨a1, a2, o'⟩ := o'
        exact ⟨a1, a2, up _ _ (Ne.symm LT) o'⟩
      · refine .snoc (hp.keep fun b o hb2 e => up b o (Nat.ne_of_gt (Nat.lt_of_lt_of_le lL hb2)) (kp b o ?_ ?_ ?_ ?_ e)) hs y1 y2 (up _ _ (Nat.ne_of_gt (Nat.lt_of_lt_of_le lL hb)) nt)
        · exact Nat.ne_of_gt (Nat.lt_of_lt_of_le lz hb2)
        · exact Nat.ne_of_gt (Nat.lt_of_lt_of_le lT hb2)
        · exact Nat.ne_of_gt (Nat.lt_of_lt_of_le l1 hb2)
        · exact Nat.ne_of_gt (Nat.lt_of_lt_of_le l2 hb2)
      · exact Heap.lt_size (up _ _ (Nat.ne_of_gt (Nat.lt_of_lt_of_le lL hb)) nt)
      · exact fun s' acc' c' hi' kp' g1 g2 g3 hL2 hp2 => hR s' acc' c' hi' (fun b o b1 b2 b3 b4 b5 e => kp' b o b1 b2 b3 b4 b5 (up b o b1 (kp b o b2 b3 b4 b5 e))) g1 g2 g3 hL2 hp2
    rcases hz with hz | ⟨T, f, oT, hz, hT⟩
    · obtain ⟨a1, a2, hO⟩ := hO
      refine wpAny_bind (wpAny_pyNext_zipD2_item S D1 D2 hz hI hO t1 t2 lt lt fun x1 x2 h' tk y1 y2 z' o' q1 q2 nt _ kp => ?_)
      exact fin x1 x2 h' tk y1 y2 (.inr ⟨_, false, _, z', nt⟩) ⟨_, _, o'⟩ q1 q2 nt kp
    · refine wpAny_bind (pyNext_held S D1 D2 hz hT hI t1 t2 lt fun x1 x2 h' tk y1 y2 z' q1 q2 nt kp => ?_)
      obtain ⟨a1, a2, hO⟩ := hO
      by_cases hTz : T = z
      · subst hTz
        exact fin x1 x2 h' tk y1 y2 (.inr ⟨_, true, _, z', z'⟩) ⟨a1, a2, kp _ _ S.TOz S.Ti1 S.Ti2 hO⟩ q1 q2 nt fun c o c1 _ c3 c4 e => kp c o c1 c3 c4 e
      · have hT' : ∃ oT', h'.get? T = some oT' := by
          by_cases a : T = i1
          · obtain ⟨o, e⟩ := D1.live _ _ q1
            exact ⟨o, by rw [a]; exact e⟩
          · by_cases b : T = i2
            · obtain ⟨o, e⟩ := D2.live _ _ q2
              exact ⟨o, by rw [b]; exact e⟩
            · exact ⟨oT, kp _ _ hTz a b hT⟩
        obtain ⟨oT', hT'⟩ := hT'
        exact fin x1 x2 h' tk y1 y2 (.inr ⟨T, true, oT', z', hT'⟩) ⟨a1, a2, kp _ _ S.TOz S.Ti1 S.Ti2 hO⟩ q1 q2 nt fun c o c1 _ c3 c4 e => kp c o c1 c3 c4 e
theorem zip_no_len : typeLookup (.type "zip") "__len__" = pure none := am_miss_of_fast (by decide +kernel)
theorem zip_no_hint : typeLookup (.type "zip") "__length_hint__" = pure none := am_miss_of_fast (by decide +kernel)
theorem ext0_zip {s : Shared} {res : Value} (S : ZipSep2 z TI TO i1 i2 fp1 fp2) (D1 : Draws prog w A.in1.in1 i1 fp1 n P1 St1) (D2 : Draws prog w A.in1.in1 i2 fp2 n P2 St2) (hn : n ≤ sizeLine)
    (hz : zrec false s.heap z TI TO .none) (hI : IsTupOf2 s.heap TI (.ref i1) (.ref i2)) (hO : ∃ a1 a2, IsTupOf2 s.heap TO a1 a2) (t1 : St1 0 s.heap) (t2 : St2 0 s.heap) (L1 : L ∉ fp1) (L2 : L ∉ fp2) (Lz : L ≠ z) (LT : L ≠ TO) (LI : L ≠ TI)
    (hS : s.heap.get? L = some { cls := .type "list", data := .seq #[] })
    (hR : ∀ s' acc' c' hi', (∀ b o, b ≠ L → b ≠ z → b ≠ TO → b ≠ i1 → b ≠ i2 → s.heap.get? b = some o → s'.heap.get? b = some o) → s'.gens = s.gens → s'.drawn = s.drawn → s'.os = s.os → s'.heap.get? L = some { cls := .type "list", dict := none, data := .seq (acc' : List Value).toArray c', slots := #[] } → Prd s'.heap s.heap.objs.size P1 P2 acc' n hi' → R (.ok (.ret res)) s') :
    wpAny (model prog w) A.in1 (Builtin.List.listExtendWith (.ref L) (.ref z) res)
      (fun fin s' => match fin with | .done f => R (.ok f) s' | .again c' => c'.quiet = true ∧ codeAny (model prog w) A c' R s') (fun e s' => R (.error e) s') s := by
  have hT : s.TypeIs (.ref z) "zip" := ⟨_, hz, rfl⟩
  have h1 : Builtin.List.listSameRef (.ref L) (.ref z) = false := by simp [Builtin.List.listSameRef, Lz]
  have h2 : (Value.type "zip" == Value.type "list") = false := by decide
  have h3 : (Value.type "zip" == Value.type "tuple") = false := by decide
  unfold Builtin.List.listExtendWith
  refine wpAny_bind (wpAny_typeOf hT ?_)
  simp only [h1, h2, h3, Bool.or_false, Bool.false_eq_true, if_false]
  refine wpAny_bind (pyIterB hz (wpAny_bind (wpAny_holding ?_)))
  unfold Builtin.List.listLengthHint
  refine wpAny_bind (wpAny_specialOf hT zip_no_len ?_)
  show wpAny _ A.in1 (specialOf (Value.ref z) (Str.ofString "__length_hint__") >>= _) _ _ s
  refine wpAny_bind (wpAny_specialOf hT zip_no_hint ?_)
  refine wpAny_pure ?_
  show wpAny _ A.in1 (rule "list.extend.makes-room" >>= fun _ => Builtin.List.listTouch (.ref L) >>= fun _ =>
    again (.builtin "list.extend.loop" ⟨[.ref L, .ref z, res], []⟩)) _ _ _
  refine wpAny_bind (wpAny_rule (wpAny_bind ?_))
  show wpAny _ A.in1 (updateSeq L (·.push .none) >>= fun _ => updateSeq L (·.pop)) _ _ _
  refine wpAny_bind (wpAny_updateSeq hS rfl ?_)
  have hS2 := Heap.get?_update_self (Obj.mapSeq (·.push Value.none)) hS rfl
  refine wpAny_updateSeq hS2 rfl ?_
  have hS3 := Heap.get?_update_self (Obj.mapSeq (·.pop)) hS2 rfl
  have oth : ∀ b o, b ≠ L → s.heap.get? b = some o → ((s.heap.update L (Obj.mapSeq (·.push Value.none))).update L (Obj.mapSeq (·.pop))).get? b = some o :=
    fun b o hb e => (Heap.get?_update_other _ _ (Ne.symm hb)).trans ((Heap.get?_update_other _ _ (Ne.symm hb)).trans e)
  have sz : ((s.heap.update L (Obj.mapSeq (·.push Value.none))).update L (Obj.mapSeq (·.pop))).objs.size = s.heap.objs.size := by
    rw [(Heap.SameBut.update ..).1, (Heap.SameBut.update ..).1]
  obtain ⟨a1, a2, hO⟩ := hO
  have lti1 : i1 < s.heap.objs.size := let ⟨o, e⟩ := D1.live _ _ t1; Heap.lt_size e
  have lti2 : i2 < s.heap.objs.size := let ⟨o, e⟩ := D2.live _ _ t2; Heap.lt_size e
  refine wpAny_pure ⟨plainId_quiet F.plain_extend_loop _, ext_zip (base := s.heap.objs.size) S D1 D2 hn res (Heap.lt_size hz) (Heap.lt_size hO) lti1 lti2 (Heap.lt_size hS) (Heap.lt_size hI) L1 L2 Lz LT LI n 0 s.heap.objs.size
    { s with heap := (s.heap.update L (Obj.mapSeq (·.push Value.none))).update L (Obj.mapSeq (·.pop)) } [] _ rfl (Nat.zero_le _) (.inl (oth _ _ (Ne.symm Lz) hz)) (oth _ _ (Ne.symm LI) hI) ⟨a1, a2, oth _ _ (Ne.symm LT) hO⟩ (D1.frame _ _ _ t1 fun b hb o e => oth b o (fun z => L1 (z ▸ hb)) e) (D2.frame _ _ _ t2 fun b hb o e => oth b o (fun z => L2 (z ▸ hb)) e) hS3 .nil (by rw [sz]; exact Nat.le_refl _) (by rw [sz]; exact Nat.le_refl _) fun s' acc' c' hi' kp g1 g2 g3 hL hp => ?_⟩
  exact hR s' acc' c' hi' (fun b o b1 b2 b3 b4 b5 e => kp b o b1 b2 b3 b4 b5 (oth b o b1 e)) g1 g2 g3 hL hp
theorem init_zip {s : Shared} (S : ZipSep2 z TI TO i1 i2 fp1 fp2) (D1 : Draws prog w A.in1.in1 i1 fp1 n P1 St1) (D2 : Draws prog w A.in1.in1 i2 fp2 n P2 St2) (hn : n ≤ sizeLine)
    (hz : zrec false s.heap z TI TO .none) (hI : IsTupOf2 s.heap TI (.ref i1) (.ref i2)) (hO : ∃ a1 a2, IsTupOf2 s.heap TO a1 a2) (t1 : St1 0 s.heap) (t2 : St2 0 s.heap) (L1 : L ∉ fp1) (L2 : L ∉ fp2) (Lz : L ≠ z) (LT : L ≠ TO) (LI : L ≠ TI)
    (hS : s.heap.get? L = some { cls := .type "list", data := .seq #[] })
    (hR : ∀ s' acc' c' hi', (∀ b o, b ≠ L → b ≠ z → b ≠ TO → b ≠ i1 → b ≠ i2 → s.heap.get? b = some o → s'.heap.get? b = some o) → s'.gens = s.gens → s'.drawn = s.drawn → s'.os = s.os → s'.heap.get? L = some { cls := .type "list", dict := none, data := .seq (acc' : List Value).toArray c', slots := #[] } → Prd s'.heap s.heap.objs.size P1 P2 acc' n hi' → R (.ok (.ret .none)) s') :
    wpAny (model prog w) A.in1 (Builtin.«list.__init__» ⟨[.ref L, .ref z], []⟩)
      (fun fin s' => match fin with | .done f => R (.ok f) s' | .again c' => c'.quiet = true ∧ codeAny (model prog w) A c' R s') (fun e s' => R (.error e) s') s := by
  show wpAny _ A.in1 (do let old ← Builtin.List.listItems (.ref L); Builtin.List.listUpdate (.ref L) (fun _ => #[]); PySem.letGo old.toList.reverse; Builtin.List.listExtendWith (.ref L) (.ref z) .none) _ _ s
  refine wpAny_bind ?_
  unfold Builtin.List.listItems
  refine wpAny_bind (wpAny_seqItems hS rfl (wpAny_pure ?_))
  show wpAny _ A.in1 (updateSeq L (fun _ => #[]) >>= fun _ => PySem.letGo (#[] : Array Value).toList.reverse >>= fun _ => Builtin.List.listExtendWith (.ref L) (.ref z) .none) _ _ s
  have hS2 := Heap.get?_update_self (Obj.mapSeq (fun _ => (#[] : Array Value))) hS rfl
  have oth : ∀ b o, b ≠ L → s.heap.get? b = some o → (s.heap.update L (Obj.mapSeq (fun _ => (#[] : Array Value)))).get? b = some o := fun b o hb e => (Heap.get?_update_other _ _ (Ne.symm hb)).trans e
  have sz : (s.heap.update L (Obj.mapSeq (fun _ => (#[] : Array Value)))).objs.size = s.heap.objs.size := by rw [(Heap.SameBut.update ..).1]
  obtain ⟨a1, a2, hO⟩ := hO
  refine wpAny_bind (wpAny_updateSeq hS rfl (wpAny_bind (wpAny_letGo ?_)))
  refine ext0_zip (s := { s with heap := s.heap.update L (Obj.mapSeq (fun _ => (#[] : Array Value))) }) S D1 D2 hn (oth _ _ (Ne.symm Lz) hz) (oth _ _ (Ne.symm LI) hI) ⟨a1, a2, oth _ _ (Ne.symm LT) hO⟩ (D1.frame _ _ _ t1 fun b hb o e => oth b o (fun z => L1 (z ▸ hb)) e) (D2.frame _ _ _ t2 fun b hb o e => oth b o (fun z => L2 (z ▸ hb)) e) L1 L2 Lz LT LI hS2 fun s' acc' c' hi' kp g1 g2 g3 hL hp => ?_
  rw [show ({ s with heap := s.heap.update L (Obj.mapSeq (fun _ => (#[] : Array Value))) } : Shared).heap.objs.size = s.heap.objs.size from sz] at hp
  exact hR s' acc' c' hi' (fun b o b1 b2 b3 b4 b5 e => kp b o b1 b2 b3 b4 b5 (oth b o b1 e)) g1 g2 g3 hL hp
end
section
variable {prog : Program} {w : World} {A : Around} {E : Value → Shared → Prop} {z TI TO i1 i2 : Addr} {fp1 fp2 : List Addr} {n : Nat} {P1 P2 : Nat → Value → Prop} {St1 St2 : Nat → Heap → Prop} {s : Shared}
theorem call_list_zip {Q : Value → Shared → Prop} (S : ZipSep2 z TI TO i1 i2 fp1 fp2) (D1 : ∀ A : Around, A.handled = none → Draws prog w A i1 fp1 n P1 St1) (D2 : ∀ A : Around, A.handled = none → Draws prog w A i2 fp2 n P2 St2) (hh : A.handled = none) (hn : n ≤ sizeLine)
    (hz : zrec false s.heap z TI TO .none) (hI : IsTupOf2 s.heap TI (.ref i1) (.ref i2)) (hO : ∃ a1 a2, IsTupOf2 s.heap TO a1 a2) (t1 : St1 0 s.heap) (t2 : St2 0 s.heap) (f1 : ∀ b ∈ fp1, b < s.heap.objs.size) (f2 : ∀ b ∈ fp2, b < s.heap.objs.size)
    (hQ : ∀ (s' : Shared) (acc' : List Value) (c' hi' : Nat), (∀ b o, b ≠ z → b ≠ TO → b ≠ i1 → b ≠ i2 → s.heap.get? b = some o → s'.heap.get? b = some o) → s'.gens = s.gens → s'.drawn = s.drawn → s'.os = s.os → s'.heap.get? s.heap.objs.size = some { cls := .type "list", dict := none, data := .seq acc'.toArray c', slots := #[] } → Prd s'.heap (s.heap.objs.size + 1) P1 P2 acc' n hi' → Q (.ref s.heap.objs.size) s') :
    wpAny (model prog w) A (call (.type "list") [.ref z]) Q E s := by
  obtain ⟨a1, a2, hO⟩ := hO
  refine callType_codes (Q₁ := fun obj s₁ => obj = .ref s.heap.objs.size ∧ s₁ = { s with heap := s.heap.push { cls := .type "list", data := .seq #[] } }) F.called_list (F.typeCall_list_1 _) F.entry_list_init (code_list_new _ ⟨rfl, rfl⟩) fun obj s₁ h₁ => ?_
  obtain ⟨rfl, rfl⟩ := h₁
  have hS : (s.heap.push { cls := .type "list", data := .seq #[] }).get? s.heap.objs.size = some { cls := .type "list", data := .seq #[] } := Heap.get?_push_size _ rfl
  have up : ∀ b o, s.heap.get? b = some o → (s.heap.push { cls := .type "list", data := .seq #[] }).get? b = some o := fun b o e => Heap.get?_push_of_some _ e
  have sz : (s.heap.push { cls := .type "list", data := .seq #[] }).objs.size = s.heap.objs.size + 1 := Heap.size_push ..
  have d1 := D1 A.in1.in1.in1 hh
  have d2 := D2 A.in1.in1.in1 hh
  refine ⟨⟨_, hS, rfl⟩, F.args_list_init_2 _ _, init_zip (s := { s with heap := s.heap.push { cls := .type "list", data := .seq #[] } }) S d1 d2 hn (up _ _ hz) (up _ _ hI) ⟨a1, a2, up _ _ hO⟩ (d1.frame _ _ _ t1 fun b hb o e => up b o e) (d2.frame _ _ _ t2 fun b hb o e => up b o e)
    (fun h => Nat.lt_irrefl _ (f1 _ h)) (fun h => Nat.lt_irrefl _ (f2 _ h)) (Nat.ne_of_gt (Heap.lt_size hz)) (Nat.ne_of_gt (Heap.lt_size hO)) (Nat.ne_of_gt (Heap.lt_size hI)) hS fun s' acc' c' hi' kp g1 g2 g3 hL hp => ?_⟩
  rw [show ({ s with heap := s.heap.push { cls := .type "list", data := .seq #[] } } : Shared).heap.objs.size = s.heap.objs.size + 1 from sz] at hp
  exact ⟨rfl, hQ s' acc' c' hi' (fun b o b2 b3 b4 b5 e => kp b o (Nat.ne_of_lt (Heap.lt_size e)) b2 b3 b4 b5 (up b o e)) g1 g2 g3 hL hp⟩
end
end HZ
namespace HZ
open PySem PySem.Spec PyProof.Rows L2
def addP (H : Hp) : List (Addr × V × V) → Hp
  | [] => H
  | (T, x, y) :: r => addP (upd H T (.tup [x, y])) r
theorem addP_ne {b : Addr} : ∀ (l : List (Addr × V × V)) (H : Hp), b ∉ l.map (·.1) → addP H l b = H b
  | [], H, _ => rfl
  | (T, x, y) :: r, H, h => by
    simp only [List.map_cons, List.mem_cons, not_or] at h
    show addP (upd H T (.tup [x, y])) r b = _
    rw [addP_ne r _ h.2, upd_ne h.1]
theorem addP_at : ∀ (l : List (Addr × V × V)) (H : Hp), (l.map (·.1)).Nodup → ∀ T x y, (T, x, y) ∈ l → addP H l T = some (.tup [x, y])
  | [], H, _, T, x, y, h => by cases h
  | (T0, x0, y0) :: r, H, nd, T, x, y, h => by
    simp only [List.map_cons, List.nodup_cons] at nd
    show addP (upd H T0 (.tup [x0, y0])) r T = _
    rcases List.mem_cons.mp h with e | h
    · cases e
      rw [addP_ne r _ nd.1, upd_same]
    · exact addP_at r _ nd.2 T x y h
theorem Prd.all {h : Heap} {base : Nat} {P1 P2 : Nat → Value → Prop} {acc : List Value} {n hi : Nat} (p : Prd h base P1 P2 acc n hi) :
    ∃ ts : List Addr, acc = ts.map Value.ref ∧ ts.length = n ∧ ts.Nodup ∧ (∀ T ∈ ts, base ≤ T ∧ T < hi) ∧ ∀ i T, ts[i]? = some T → ∃ x y, P1 i x ∧ P2 i y ∧ IsTupOf2 h T x y := by
  induction p with
  | nil => exact ⟨[], rfl, rfl, List.nodup_nil, by simp, by simp⟩
  | @snoc acc i hi T x y p l hx hy ht ih =>
    obtain ⟨ts, e1, e2, e3, e4, e5⟩ := ih
    refine ⟨ts ++ [T], by simp [e1], by simp [e2], ?_, ?_, ?_⟩
    · refine List.nodup_append.mpr ⟨e3, by simp, fun a ha b hb => ?_⟩
      obtain rfl := List.mem_singleton.mp hb
      exact Nat.ne_of_lt (Nat.lt_of_lt_of_le (e4 a ha).2 l)
    · intro S hS
      rcases List.mem_append.mp hS with hS | hS
      · exact ⟨(e4 S hS).1, Nat.lt_succ_of_lt (Nat.lt_of_lt_of_le (e4 S hS).2 l)⟩
      · obtain rfl := List.mem_singleton.mp hS
        exact ⟨Nat.le_trans p.ge l, Nat.lt_succ_self _⟩
    · intro j S hj
      by_cases c : j < ts.length
      · rw [List.getElem?_append_left c] at hj
        exact e5 j S hj
      · have hl := (List.getElem?_eq_some_iff.mp hj).1
        simp at hl
        have ej : j = i := by omega
        subst ej
        rw [List.getElem?_append_right (by omega), e2, Nat.sub_self] at hj
        cases hj
        exact ⟨x, y, hx, hy, ht⟩
theorem vals_refs : ∀ ts : List Addr, Vals (ts.map V.ref) (ts.map Value.ref)
  | [] => .nil
  | _ :: r => .cons rfl (vals_refs r)
theorem PSeq.at {k : Bool} {h h' : Heap} {l : Addr} {its : Array Value} (q : PSeq k h l its) (e : ∀ o, h.get? l = some o → h'.get? l = some o) : PSeq k h' l its := by
  cases k
  · obtain ⟨o, f, r⟩ := q; exact ⟨o, e _ f, r⟩
  · obtain ⟨o, f, r⟩ := q; exact ⟨o, e _ f, r⟩
def tListZip (K : PySem.W.Frag) (ta : TA) : TE := fun σ H Q => ta σ H fun vs H1 => ∃ (p q : Bool × Addr) (xs ys : List V), vs = [.ref p.2, .ref q.2] ∧ PtAt K H1 p xs ∧ PtAt K H1 q ys ∧ xs.length = ys.length ∧
  ∀ (l : Addr) (ps : List (Addr × V × V)), ps.map (·.2) = xs.zip ys → (ps.map (·.1)).Nodup → (∀ T ∈ ps.map (·.1), H1 T = none) → l ∉ ps.map (·.1) → H1 l = none → Q (.ref l) (upd (addP H1 ps) l (.lst (ps.map fun t => .ref t.1)))
theorem pe_listZip {X : Cx} {e e2 : Expr} {ta : TA} {p p2 pos pos2 : Pos} (hc : X.calm = true) (hg : Gl X "list") (hm : X.mg "list" = none) (hg2 : Gl X "zip") (hm2 : X.mg "zip" = none) (ha : PA X [e, e2] ta)
    (hs : starEach [e, e2] X.env = (false, eval e X.env) :: starEach [e2] X.env := by rfl) (hpl : (backTo pos2 (starEach [e2] X.env)).any (·.1) = false := by rfl)
    (hs2 : starEach [.Call (.Name "zip" p2) [e, e2] [] pos2] X.env = (false, eval (.Call (.Name "zip" p2) [e, e2] [] pos2) X.env) :: starEach [] X.env := by rfl) :
    PE X (.Call (.Name "list" p) [.Call (.Name "zip" p2) [e, e2] [] pos2] [] pos) (tListZip X.K ta) := by
  refine ⟨fun pins s σ H Q I h => ?_⟩
  refine Call_ (ld_blt I hg hm (show bootBuiltins ("list" : Str) = some (.type "list") by decide +kernel) (PyProof.Rows.callWith_type1 (args_cons (Call_ (ld_blt I hg2 hm2 PyProof.Rows.boot_zip (PyProof.Rows.callWith_type1 (thn (ha.run pos2 pins s σ H _ I h) fun us s1 ⟨vs, H1, I1, r1, q1⟩ => ?_) hs hpl))) hs2) hs2 rfl))
  obtain ⟨a, b, xs, ys, ex, hqx, hqy, hl, q⟩ := q1
  subst ex
  obtain ⟨u, v, rfl, r, r'⟩ := vals2 r1
  obtain rfl : u = Value.ref a.2 := r
  obtain rfl : v = Value.ref b.2 := r'
  obtain ⟨its, rv, p1⟩ := ptAt I1 hqx
  obtain ⟨its2, rv2, p2⟩ := ptAt I1 hqy
  refine zip_begins2 (beginsP a.1 a.2 _) (beginsP b.1 b.2 _) p1 p2 fun h' hz hI hO h1 h2 _ hk => args_nil ?_
  have sz4 : s1.heap.objs.size + 4 < h'.objs.size := Heap.lt_size hz
  have la := p1.lt
  have lb := p2.lt
  have hn : its.toArray.size ≤ sizeLine := by
    obtain ⟨k, a⟩ := a
    cases k
    · obtain ⟨_, rv', _, hz⟩ := I1.list hqx
      rw [List.size_toArray, ← rv.length]; exact hz
    · obtain ⟨_, rv', _, hz⟩ := I1.tuple hqx
      rw [List.size_toArray, ← rv.length]; exact hz
  have en : its2.toArray.size = its.toArray.size := by rw [List.size_toArray, List.size_toArray, ← rv.length, ← rv2.length, hl]
  have i1 : PIter a.1 h' s1.heap.objs.size a.2 0 := by
    revert h1
    cases a.1
    · exact fun h1 => ⟨_, h1, rfl, rfl⟩
    · exact fun h1 => ⟨_, h1, rfl, rfl⟩
  have i2 : PIter b.1 h' (s1.heap.objs.size + 1) b.2 0 := by
    revert h2
    cases b.1
    · exact fun h2 => ⟨_, h2, rfl, rfl⟩
    · exact fun h2 => ⟨_, h2, rfl, rfl⟩
  have na : a.2 ≠ s1.heap.objs.size := Nat.ne_of_lt la
  have nb : b.2 ≠ s1.heap.objs.size + 1 := Nat.ne_of_lt (Nat.lt_succ_of_lt lb)
  have I2 : Inv X pins σ H1 { s1 with heap := h' } := I1.kept (t' := s1.toks) hk
  have hh : X.A.handled = none := I1.ok.hd hc
  refine call_list_zip (s := { s1 with heap := h' }) (sep_new la lb) (fun A hA => drawsP hA s1.heap.objs.size a.2 na its.toArray) (fun A hA => en ▸ drawsP hA (s1.heap.objs.size + 1) b.2 nb its2.toArray) hh hn hz hI ⟨_, _, hO⟩ ⟨i1, p1.at fun o => hk a.2 o⟩ ⟨i2, p2.at fun o => hk b.2 o⟩ (fun c hcm => ?_) (fun c hcm => ?_) fun s' acc' c' hi' kp g1 g2 g3 hL hp => ?_
  · rcases List.mem_cons.mp hcm with e | e
    · rw [e]; exact Nat.lt_of_le_of_lt (Nat.le_add_right _ 4) sz4
    · rw [List.mem_singleton.mp e]; exact Nat.lt_trans la (Nat.lt_of_le_of_lt (Nat.le_add_right _ 4) sz4)
  · rcases List.mem_cons.mp hcm with e | e
    · rw [e]; exact Nat.lt_trans (Nat.add_lt_add_left (by decide : 1 < 4) _) sz4
    · rw [List.mem_singleton.mp e]; exact Nat.lt_trans lb (Nat.lt_of_le_of_lt (Nat.le_add_right _ 4) sz4)
  obtain ⟨ts, e1, e2, e3, e4, e5⟩ := hp.all
  obtain ⟨hp', gg, dd, tk', oo⟩ := s'
  obtain rfl : gg = s1.gens := g1
  obtain rfl : dd = s1.drawn := g2
  obtain rfl : oo = s1.os := g3
  have lx : its.length = xs.length := rv.length.symm
  have ly : its2.length = ys.length := rv2.length.symm
  have lt : ts.length = xs.length := by rw [e2, List.size_toArray, lx]
  have lz : ts.length = (xs.zip ys).length := by rw [List.length_zip, ← hl, Nat.min_self, lt]
  have m1 : (ts.zip (xs.zip ys)).map (·.1) = ts := by rw [List.map_fst_zip (Nat.le_of_eq lz)]
  have m2 : (ts.zip (xs.zip ys)).map (·.2) = xs.zip ys := by rw [List.map_snd_zip (Nat.le_of_eq lz.symm)]
  have m3 : (ts.zip (xs.zip ys)).map (fun t => V.ref t.1) = ts.map V.ref := by
    show (ts.zip (xs.zip ys)).map (V.ref ∘ Prod.fst) = _
    rw [← List.map_map, m1]
  have szl : s1.heap.objs.size ≤ h'.objs.size := Nat.le_of_lt (Nat.lt_of_le_of_lt (Nat.le_add_right _ 4) sz4)
  have big : ∀ T ∈ ts, h'.objs.size < T := fun T hT => (e4 T hT).1
  have frl : H1 h'.objs.size = none := I1.hok.fresh szl
  have frt : ∀ T ∈ ts, H1 T = none := fun T hT => I1.hok.fresh (Nat.le_trans szl (Nat.le_of_lt (big T hT)))
  have nl : h'.objs.size ∉ ts := fun h => Nat.lt_irrefl _ (big _ h)
  refine ⟨.ref h'.objs.size, upd (addP H1 (ts.zip (xs.zip ys))) h'.objs.size (.lst (ts.map V.ref)), ?_, rfl, ?_⟩
  · refine news I1 (ch := []) (t' := tk') (h' := hp') (fun c o _ e => ?_) (by simp) (fun c hcl => ?_) fun c o hcl e => ?_
    · have lc := Heap.lt_size e
      refine kp c o ?_ ?_ ?_ ?_ (hk c o e)
      · exact Nat.ne_of_lt (Nat.lt_of_lt_of_le lc (Nat.le_add_right _ 4))
      · exact Nat.ne_of_lt (Nat.lt_of_lt_of_le lc (Nat.le_add_right _ 3))
      · exact Nat.ne_of_lt lc
      · exact Nat.ne_of_lt (Nat.lt_succ_of_lt lc)
    · rw [upd_ne (Nat.ne_of_lt (Nat.lt_of_lt_of_le hcl szl)), addP_ne _ _ (by rw [m1]; exact fun h => Nat.lt_irrefl _ (Nat.lt_trans (Nat.lt_of_lt_of_le hcl szl) (big c h)))]
    · by_cases c1 : c = h'.objs.size
      · subst c1
        rw [upd_same] at e
        cases e
        refine ⟨?_, ts.map Value.ref, c', ?_, ?_⟩
        · rw [List.length_map, lt, ← lx]; rw [List.size_toArray] at hn; exact hn
        · exact vals_refs ts
        · rw [← e1]; exact hL
      · rw [upd_ne c1] at e
        by_cases c2 : c ∈ ts
        · obtain ⟨i, hi⟩ := List.getElem?_of_mem c2
          obtain ⟨u, v, hu, hv, ht⟩ := e5 i c hi
          have hu : its[i]? = some u := by simpa using hu
          have hv : its2[i]? = some v := by simpa using hv
          have li := (List.getElem?_eq_some_iff.mp hu).1
          have lj := (List.getElem?_eq_some_iff.mp hv).1
          obtain ⟨x, hx⟩ : ∃ x, xs[i]? = some x := ⟨_, List.getElem?_eq_getElem (lx ▸ li)⟩
          obtain ⟨y, hy⟩ : ∃ y, ys[i]? = some y := ⟨_, List.getElem?_eq_getElem (ly ▸ lj)⟩
          obtain ⟨u', hu', ru⟩ := rv.get hx
          obtain ⟨v', hv', rw'⟩ := rv2.get hy
          rw [hu] at hu'; cases hu'
          rw [hv] at hv'; cases hv'
          have mem : (c, x, y) ∈ ts.zip (xs.zip ys) := by
            refine List.mem_of_getElem? (i := i) ?_
            rw [List.getElem?_zip_eq_some]
            exact ⟨hi, by rw [List.getElem?_zip_eq_some]; exact ⟨hx, hy⟩⟩
          rw [addP_at _ _ (by rw [m1]; exact e3) c x y mem] at e
          cases e
          exact ⟨by show 2 ≤ sizeLine; decide, [u, v], .cons ru (.cons rw' .nil), ⟨_, ht, rfl, _, rfl⟩⟩
        · rw [addP_ne _ _ (by rw [m1]; exact c2), I1.hok.fresh hcl] at e
          cases e
  · have := q h'.objs.size (ts.zip (xs.zip ys)) m2 (by rw [m1]; exact e3) (by rw [m1]; exact frt) (by rw [m1]; exact nl) frl
    rw [m3] at this
    exact this
end HZ
namespace HA
open PySem PySem.Spec PyProof.Rows L2
def lZip (d e : D) (ah : AH) : Res (List D) := match partOf d ah, partOf e ah with
  | some (xs, _), some (ys, _) => if xs.length = ys.length then .ok (pairsD xs ys) ah else .stuck
  | _, _ => .stuck
theorem ext_addP {K : PySem.W.Frag} {μ : List Addr} {ah : AH} : ∀ (ps : List (Addr × V × V)) (H : Hp), (ps.map (·.1)).Nodup → (∀ T ∈ ps.map (·.1), H T = none) → Sim K μ H ah → Ext K μ H μ (HZ.addP H ps) ∧ Sim K μ (HZ.addP H ps) ah
  | [], H, _, _, S => ⟨Ext.refl, S⟩
  | (T, x, y) :: r, H, nd, fr, S => by
    simp only [List.map_cons, List.nodup_cons] at nd
    have hT : H T = none := fr T (by simp)
    obtain ⟨a, b⟩ := ext_addP r (upd H T (.tup [x, y])) nd.2 (fun U hU => by
      have ne : U ≠ T := fun e => nd.1 (by rw [← e]; exact hU)
      rw [upd_ne ne]
      exact fr U (by simp only [List.map_cons, List.mem_cons]; exact .inr hU)) (S.other hT)
    exact ⟨(Ext.other hT).trans a, b⟩
theorem reps_addP {K : PySem.W.Frag} {μ : List Addr} {H : Hp} : ∀ (ps : List (Addr × V × V)) (ds es : List D) (xs ys : List V), ps.map (·.2) = xs.zip ys → Reps K μ H ds xs → Reps K μ H es ys → (∀ T x y, (T, x, y) ∈ ps → H T = some (.tup [x, y])) → Reps K μ H (pairsD ds es) (ps.map fun t => V.ref t.1)
  | ps, [], es, xs, ys, e, r, r', h => by
    have : xs = [] := by
      have := r.length
      cases xs with
      | nil => rfl
      | cons _ _ => simp at this
    subst this
    have : ps = [] := by simpa using e
    subst this
    exact Reps.nil
  | ps, d :: ds, [], xs, ys, e, r, r', h => by
    have : ys = [] := by
      have := r'.length
      cases ys with
      | nil => rfl
      | cons _ _ => simp at this
    subst this
    have : ps = [] := by simpa using e
    subst this
    exact Reps.nil
  | ps, d :: ds, f :: es, xs, ys, e, r, r', h => by
    obtain ⟨x, xr, rfl, rx, rxs⟩ := r.uncons
    obtain ⟨y, yr, rfl, ry, rys⟩ := r'.uncons
    cases ps with
    | nil => simp at e
    | cons t ps =>
      obtain ⟨T, x', y'⟩ := t
      simp only [List.map_cons, List.zip_cons_cons, List.cons.injEq, Prod.mk.injEq] at e
      obtain ⟨⟨rfl, rfl⟩, e⟩ := e
      refine Reps.cons ?_ (reps_addP ps ds es xr yr e rxs rys fun U a b hm => h U a b (List.mem_cons_of_mem _ hm))
      simp only [Rep]
      exact ⟨T, _, rfl, SqT.of (h T x' y' List.mem_cons_self), Reps.cons rx (Reps.cons ry Reps.nil)⟩
theorem part_all {d : D} {ah : AH} {ds : List D} {g : List (Nat × List D)} (e1 : partOf d ah = some (ds, g)) : (g.all fun q => decide (listAt ah q.1 = some q.2)) = true := by
  unfold partOf at e1
  split at e1
  · cases e1; rfl
  · rw [Option.map_eq_some_iff] at e1
    obtain ⟨x, el, e1⟩ := e1
    cases e1
    simp [el]
  · cases e1
section
variable {X : Cx} {W : WX} {e f : Expr} {m m2 : EM D} {p p2 pos pos2 : Pos}
theorem pl_listZip (hc : X.calm = true) (hg : Gl X "list") (hm : X.mg "list" = none) (hg2 : Gl X "zip") (hm2 : X.mg "zip" = none) (h : PD X W e m) (h2 : PD X W f m2) (hs : starEach [e, f] X.env = [(false, eval e X.env), (false, eval f X.env)] := by rfl) (hs2 : starEach [f] X.env = [(false, eval f X.env)] := by rfl)
    (h0 : starEach [e, f] X.env = (false, eval e X.env) :: starEach [f] X.env := by rfl) (hpl : (backTo pos2 (starEach [f] X.env)).any (·.1) = false := by rfl)
    (h3 : starEach [.Call (.Name "zip" p2) [e, f] [] pos2] X.env = (false, eval (.Call (.Name "zip" p2) [e, f] [] pos2) X.env) :: starEach [] X.env := by rfl) :
    PL X W (.Call (.Name "list" p) [.Call (.Name "zip" p2) [e, f] [] pos2] [] pos) (e2 m m2 lZip) := by
  refine PE.weak (HZ.pe_listZip hc hg hm hg2 hm2 (pa_cons h (pa_cons h2 pa_nil hs2) (by rw [hs, hs2])) h0 hpl h3) fun σ H Q ⟨μ, env, ah, he, hs, hp⟩ => ?_
  refine ⟨μ, env, ah, he, hs, hp.bind fun d ah1 μ1 x H1 e1 s1 r1 p1 => ?_⟩
  refine tG_next he e1 s1 (p1.bind fun d2 ah2 μ2 y H2 e2 s2 r2 p2 => ?_)
  have r1 := Rep.ext (show Rep X.K μ1 H1 d x from r1) e2
  have r2 : Rep X.K μ2 H2 d2 y := r2
  unfold lZip at p2
  split at p2
  · rename_i ds g es g' q1 q2
    split at p2
    · rename_i hl
      obtain ⟨a1, rfl, k1⟩ := part_at s2 r1 q1
      obtain ⟨a2, rfl, k2⟩ := part_at s2 r2 q2
      obtain ⟨xs, hx, rx⟩ := k1 μ2 H2 ah2 Ext.refl s2 (part_all q1)
      obtain ⟨ys, hy, ry⟩ := k2 μ2 H2 ah2 Ext.refl s2 (part_all q2)
      refine ⟨a1, a2, xs, ys, rfl, hx, hy, by rw [← rx.length, ← ry.length, hl], fun l ps em nd fr nl frl => ?_⟩
      obtain ⟨ex, S⟩ := ext_addP ps H2 nd fr s2
      refine Post.newL (Post.ext ex p2) S (reps_addP ps ds es xs ys em (rx.ext ex) (ry.ext ex) fun T x y hm => HZ.addP_at ps H2 nd T x y hm) ?_
      rw [HZ.addP_ne _ _ nl]
      exact frl
    · exact p2.elim
  · exact p2.elim
end
end HA
namespace HA
open PySem PySem.Spec PyProof.Rows L2
def keysOf (ds : List D) : Option (List Key) := if ds.length ≤ 16 then optAll dKey ds else none
theorem keys_go {K : PySem.W.Frag} {μ : List Addr} {H : Hp} : ∀ (ds : List D) (vs : List V) (kk : List Key), optAll dKey ds = some kk → Reps K μ H ds vs → vs = kk.map kV
  | [], vs, kk, h, r => by
    cases h
    simp only [Reps] at r
    rw [r]
    rfl
  | d :: ds, vs, kk, h, r => by
    obtain ⟨v, ws, rfl, r1, r2⟩ := r.uncons
    unfold optAll at h
    split at h
    · rename_i a b e1 e2
      cases h
      rw [keys_go ds ws _ e2 r2, dKey_v e1 r1]
      rfl
    · cases h
theorem keys_v {K : PySem.W.Frag} {μ : List Addr} {H : Hp} {ds : List D} {vs : List V} {kk : List Key} (h : keysOf ds = some kk) (r : Reps K μ H ds vs) : vs = kk.map kV ∧ vs.length ≤ sizeLine := by
  unfold keysOf at h
  split at h
  · rename_i hl
    refine ⟨keys_go ds vs kk h r, ?_⟩
    rw [← r.length]
    exact Nat.le_trans hl (by decide)
  · cases h
def oGetT (d : D) (ds : List D) (ah : AH) : Res D := match d, keysOf ds with
  | .ref n, some kk => match ah[n]? with
    | some (.dT kvs) => match valD kvs kk with
      | some v => .ok v ah
      | none => .stuck
    | _ => .stuck
  | _, _ => .stuck
def sPutT (mo : EM D) (mi : EM (List D)) (mv : EM D) : SM := fun env ah => (mv env ah).thenS env fun v ah1 => (mo env ah1).thenS env fun d ah2 => (mi env ah2).thenS env fun ds ah3 => match d, keysOf ds with
  | .ref n, some kk => match ah3[n]? with
    | some (.dT kvs) => if kvs.length < line then .nx env (ah3.set n (.dT (putD kvs kk v))) else .stuck
    | _ => .stuck
  | _, _ => .stuck
def eDnewT : EM D := fun _ ah => .ok (.ref ah.length) (ah ++ [.dT []])
section
variable {X : Cx} {W : WX} {o v : Expr} {es : List Expr} {mo mv : EM D} {mes : EM (List D)} {pos p1 : Pos} {k x1 : Nat}
theorem pd_dnewT : PD X W (.Dict [] [] pos) eDnewT := by
  refine PE.weak pe_dnewT fun σ H Q ⟨μ, env, ah, he, hs, hp⟩ p np => ?_
  refine hp (μ ++ [p]) (.ref p) _ (Ext.ours np hs.mpos) (hs.new np rfl ⟨[], upd_same, rfl, Reps.nil⟩) ?_
  show Rep _ _ _ _ _
  simp only [Rep]
  exact ⟨p, by rw [← hs.len]; simp, rfl⟩
theorem pd_getT (hr : Rm k X.A) (ho : PD X W o mo) (hi : PAs X W es mes) (hs : NoSl (.Tuple es x1 p1) := by exact fun _ _ => rfl) : PD X W (.Subscript o (.Tuple es x1 p1) pos) (e2 mo mes oGetT) := by
  refine PE.weak (pe_dget hr.u1 ho (pe_tup hi) hs) fun σ H Q ⟨μ, env, ah, he, hs, hp⟩ => ?_
  refine ⟨μ, env, ah, he, hs, hp.bind fun d ah1 μ1 x H1 e1 s1 r1 p1 => ?_⟩
  refine tG_next he e1 s1 (p1.bind fun ds ah2 μ2 ys H2 e2 s2 r2 p2 => ?_)
  have r2 : Reps X.K μ2 H2 ds ys := r2
  unfold oGetT at p2
  split at p2
  · rename_i n kk ek
    obtain ⟨a, ea, rfl⟩ := d_ref (Rep.ext (show Rep X.K μ1 H1 (.ref n) x from r1) e2)
    obtain ⟨ey, ly⟩ := keys_v ek r2
    split at p2
    · rename_i kvs q
      split at p2
      · rename_i v ev
        obtain ⟨kws, h1, h2, r⟩ := s2.ok n a _ ea q
        have z := val_get (kk := kk) h2 r
        rw [ev] at z
        obtain ⟨u, eu, ru⟩ := z
        refine ⟨ly, fun p np => ⟨a, u, rfl, ?_, ?_⟩⟩
        · have ne : a ≠ p := fun e => by rw [e, np] at h1; cases h1
          have h1' : upd H2 p (.tup ys) a = some (.dT kws) := by rw [upd_ne ne]; exact h1
          rw [← eu]
          exact DGet.t h1' (by rw [upd_same, ey])
        · exact Post.ok1 (R := RD X.K) (Post.ext (Ext.other np) p2) (s2.other np) (Rep.ext ru (Ext.other np))
      · exact p2.elim
    · exact p2.elim
  · exact p2.elim
theorem pz_putT {pos' : Pos} (hr : Rm k X.A) (ho : PD X W o mo) (hi : PAs X W es mes) (hv : PD X W v mv) (hs : swapsWith v (some (.Subscript o (.Tuple es x1 p1) pos')) pos.line X.env = pure false := by rfl) : PZ X W (.Assign [.Subscript o (.Tuple es x1 p1) pos'] v pos) (sPutT mo mes mv) := by
  refine PS.weak (ps_dput hr.u1 ho (pe_tup hi) hv hs) fun D σ H ⟨μ, env, ah, he, hs, hp⟩ => ?_
  refine ⟨μ, env, ah, he, hs, PostS.bind hp he fun v ah1 μ1 w H1 e1 s1 r1 p1 => ?_⟩
  refine ⟨μ1, env, ah1, he.ext e1, s1, PostS.bind p1 (he.ext e1) fun d ah2 μ2 x H2 e2 s2 r2 p2 => ?_⟩
  refine ⟨μ2, env, ah2, he.ext (e1.trans e2), s2, PostS.bind p2 (he.ext (e1.trans e2)) fun ds ah3 μ3 ys H3 e3 s3 r3 p3 => ?_⟩
  have r3 : Reps X.K μ3 H3 ds ys := r3
  split at p3
  · rename_i n kk ek
    obtain ⟨a, ea, rfl⟩ := d_ref (Rep.ext (show Rep X.K μ2 H2 (.ref n) x from r2) e3)
    obtain ⟨ey, ly⟩ := keys_v ek r3
    split at p3
    · rename_i kvs q
      split at p3
      · rename_i hl
        refine ⟨ly, fun p np => ?_⟩
        obtain ⟨kws, h1, h2, r⟩ := s3.ok n a _ ea q
        have hlen : kvs.length = kws.length := by simpa using congrArg List.length h2
        have ne : a ≠ p := fun e => by rw [e, np] at h1; cases h1
        have h1' : upd H3 p (.tup ys) a = some (.dT kws) := by rw [upd_ne ne]; exact h1
        have ex : Ext X.K μ3 H3 μ3 (upd H3 p (.tup ys)) := Ext.other np
        have S' := s3.other (u := .tup ys) np
        have rw1 : Rep X.K μ3 (upd H3 p (.tup ys)) v w := Rep.ext (Rep.ext (Rep.ext r1 e2) e3) ex
        obtain ⟨z1, z2⟩ := put_rel (kk := kk) h2 (r.ext ex) rw1
        refine ⟨a, upd (upd H3 p (.tup ys)) a (.dT (putK kws kk w)), rfl, ?_, ?_⟩
        · exact DPut.t h1' (by rw [upd_same, ey]) (Nat.lt_of_lt_of_le (by rw [← hlen]; exact hl) (line_le (Nat.le_refl _)))
        · have hn : n ≠ 0 := fun z => by
            have := (s3.ro0 n _ q).mpr z
            cases this
          have mu := (S'.ok n a _ ea q).there rfl
          have ex2 := ex.trans (Ext.put (u := .dT (putK kws kk w)) ea hn mu)
          exact p3 μ3 σ _ ex2 (S'.put ea q rfl rfl fun ht => ⟨_, upd_same, z1, Reps.mono (List.prefix_refl _) ht _ _ z2⟩) ((he.ext ((e1.trans e2).trans e3)).ext ex2)
      · exact p3.elim
    · exact p3.elim
  · exact p3.elim
end
end HA
namespace HA
open PySem PySem.Spec PyProof.Rows L2
def oStrM (t : MTab) : List D → AH → Res D
  | [.ref n], ah => match ah[n]? with
    | some (.ins C _) => match t.lookup C with
      | some mf => match mf [.ref n] ah with
        | .ok (.str z) ah2 => .ok (.str z) ah2
        | _ => .stuck
      | none => .stuck
    | _ => .stuck
  | _, _ => .stuck
structure StrMOk (P : Program) (w : World) (K : PySem.W.Frag) (mg : Str → Option Value) (base : Heap) (k : Nat) (C : Str) (m : List D → AH → Res D) : Prop where
  ok : ∃ f fd ps, PySem.W.findIn K (.ref (gA K C)) "__str__" = some (some (.ref f)) ∧ PySem.W.isFn K (.ref f) = true ∧ FnG P w K mg base k f fd ps m ∧ Binds K fd ps [] ∧ ps.length = 1
section
variable {X : Cx} {k : Nat} {t : MTab}
theorem cd_strM (T : ∀ q ∈ t, StrMOk X.prog X.w X.K X.mg X.base k q.1 q.2) (hr : Rm (k + 2) X.A) : CallD X (RD X.K) (.type "str") (oStrM t) := fun Wx => by
  intro pins s σ H xs us Q I rv h
  obtain ⟨μ, ah, ds, S, rds, hp⟩ := h
  unfold oStrM at hp
  split at hp
  · rename_i n
    obtain ⟨v, rfl, r1⟩ := reps1 rds
    obtain ⟨a, ea, rfl⟩ := d_ref r1
    obtain ⟨u, rfl, ru⟩ := vals1 rv
    cases (show u = Value.ref a from ru)
    split at hp
    · rename_i C kvs hn
      split at hp
      · rename_i mf hm
        have TT := T _ (look_mem hm)
        obtain ⟨f, fd, ps, h1, h2, F, bn, lps⟩ := TT.ok
        obtain ⟨dx1, fws, e0, ek, rr⟩ := S.ok n a _ ea hn
        obtain ⟨mA, O, _, _, _, _⟩ := ins_get I.hok e0
        obtain ⟨od, J, _⟩ := O.look
        have hr1 : Rm k X.A.in1.in1 := ⟨Room.in1 (Room.in1 (show Room (k + 1 + 1) X.A from hr.room)), hr.gd⟩
        have po : Post X.K (RD X.K) (fun c d H' => WE W0 σ c d H') μ H (fun z H' => ∃ r : Str, z = .str r ∧ Q (.str r) H') (mf [.ref n] ah) := by
          cases q : mf [.ref n] ah with
          | ok d ah2 =>
            rw [q] at hp
            cases d with
            | str r =>
              dsimp only at hp
              intro μ' z H' x s2 r2
              obtain rfl : z = .str r := d_str (show Rep X.K μ' H' (.str r) z from r2)
              exact ⟨r, rfl, hp μ' _ H' x s2 (show Rep X.K μ' H' (.str r) (.str r) by simp only [Rep])⟩
            | _ => exact hp.elim
          | exn c fs ah2 => rw [q] at hp; exact hp.elim
          | stuck => rw [q] at hp; exact hp.elim
        have bb : BindsTo s fd ⟨[Value.ref a], []⟩ (ps.zip [Value.ref a]) := by
          have := bn s [Value.ref a] I.kIn (by simp [lps])
          simpa using this
        have e1 : Env0 X.prog X.w X.K X.mg X.base X.A.in1.in1 X.stack s H := I.env0.in1.in1
        have go : wpAny (model X.prog X.w) X.A.in1.in1 (call (.ref f) [.ref a]) (PySem.W.StrBack (EP X pins σ Q)) X.xe s := wpAny_call (codeAny_mono (F.run X.A.in1.in1 X.stack s H ⟨[.ref a], []⟩ [.ref a] [.ref a] _ (WE W0 σ) μ [.ref n] ah hr1 e1 bb (.cons rfl .nil) (by simp [lps]) S (Reps.cons r1 Reps.nil) po) fun r s' hq => by
          cases r with
          | error e => exact passF (takes0 (X := X)) σ pins H s e s' I hq
          | ok fl =>
            cases fl with
            | ret u =>
              obtain ⟨z, H', I', rz, r, rfl, q3⟩ := I.after hq
              obtain ⟨t, rfl⟩ := (show ∃ t, u = Value.str r t from rz)
              exact ⟨.str r, H', I', ⟨t, rfl⟩, q3⟩
            | next => exact hq.elim
            | brk => exact hq.elim
            | cont => exact hq.elim)
        exact PySem.W.kso_call hr1.room.units0 I.kIn J h1 h2 go
      · exact hp.elim
    · exact hp.elim
  · exact hp.elim
end
end HA
namespace HL
open PySem PySem.Spec PyProof.Rows L2 HA
def top (i : Nat) : Stmt := PySem.Challenge.pw_heldaddresses_k03_rules_that_let_no_more.main.body.getD i (.Pass ⟨0, 0, 0, 0⟩)
abbrev s__law_deck : Stmt := top 9
abbrev s__law_draw : Stmt := top 10
abbrev s__law_words : Stmt := top 12
abbrev s__law_all_rules : Stmt := top 13
abbrev s__law_rule : Stmt := top 14
abbrev s__law_due : Stmt := top 15
abbrev s_law : Stmt := top 16
abbrev s_Rule___init__ : Stmt := inClass (top 7) 0
abbrev s_Rule_four_words : Stmt := inClass (top 7) 1
abbrev s_Rule___eq__ : Stmt := inClass (top 7) 2
abbrev s_Rule___str__ : Stmt := inClass (top 7) 3
abbrev s_Rule_lets_no_more : Stmt := inClass (top 7) 5
def c_FIELDS : D := .tup [.str "cast", .str "order", .str "alike", .str "stale"]
def c_NONE : D := .str "none"
def c_WORDS : CTab := [("cast", .tup [.str "none", .str "shown", .str "any"]), ("order", .tup [.str "none", .str "number"]), ("alike", .tup [.str "none", .str "number", .str "whence"]), ("stale", .tup [.str "none", .str "let"])]
def isos : List Str := ["Rule"]
def clss : List (Str × List Str) := [("Rule", ["cast", "order", "alike", "stale"])]
def stab : STab := []
def xtab : XTab := []
structure Txt (K : PySem.W.Frag) (w : World) (mg : Str → Option Value) where
  _law_deck : TF K mg "_law_deck" s__law_deck ["_law_script"]
  _law_draw : TF K mg "_law_draw" s__law_draw ["_law_deck_here", "_law_bound"]
  _law_words : TF K mg "_law_words" s__law_words []
  _law_all_rules : TF K mg "_law_all_rules" s__law_all_rules []
  _law_rule : TF K mg "_law_rule" s__law_rule ["_law_some"]
  _law_due : TF K mg "_law_due" s__law_due ["_law_some", "_law_more"]
  law : TF K mg "law" s_law ["_law_script"]
  Rule : CT K mg "Rule" "Rule.__init__" s_Rule___init__
  M_Rule_four_words : MT K "Rule" "four_words" "Rule.four_words" s_Rule_four_words
  M_Rule___eq__ : MT K "Rule" "__eq__" "Rule.__eq__" s_Rule___eq__
  M_Rule___str__ : MT K "Rule" "__str__" "Rule.__str__" s_Rule___str__
  M_Rule_lets_no_more : MT K "Rule" "lets_no_more" "Rule.lets_no_more" s_Rule_lets_no_more
  n_all : mg "all" = none
  n_isinstance : mg "isinstance" = none
  n_len : mg "len" = none
  n_list : mg "list" = none
  n_range : mg "range" = none
  n_repr : mg "repr" = none
  n_str : mg "str" = none
  n_sum : mg "sum" = none
  n_zip : mg "zip" = none
  c_FIELDS : ∃ u, mg "FIELDS" = some u ∧ CR K u c_FIELDS
  c_NONE : ∃ u, mg "NONE" = some u ∧ CR K u c_NONE
  c_WORDS : CDOk K w mg "WORDS" c_WORDS
  g_Rule : mg "Rule" = some (.ref (gA K "Rule"))
  x_NoRule : XT K mg "NoRule" "field"
  clss : ∀ q ∈ clss, ClsT K q.1 q.2
  isos : ∀ C ∈ isos, HA.IsOk K C
  ne_Rule : PySem.W.findIn K (.ref (gA K "Rule")) "__ne__" = some (some (.builtin "object.__ne__"))
  ob_Rule : PySem.W.subIn K (.ref (gA K "Rule")) (.type "object") = some true
section
variable {P : Program} {w : World} {K : PySem.W.Frag} {mg : Str → Option Value} {base : Heap}
theorem sc__law_deck : FnScope ["_law_script", "_law_cells"] ["_law_script"] (defScope s__law_deck) := ⟨rfl, rfl, rfl, by decide +kernel, rfl, by decide +kernel, by decide +kernel⟩
def b__law_deck : SM := (sSeq (sAsg (eNew (e1 (e3 (eVar 0) (oPart none) (oPart (some (eC (.int 63)))) fun d lo hi ah => (HA.listOf d ah).bind fun ds ah => lCut ds lo hi ah) sList)) (gSet 1)) (sRet (eDisp [((eC (.str "cells")), (eVar 1)), ((eC (.str "at")), (eC (.int 0))), ((eC (.str "sum")), (e2 (e2 (e1 (e1 (eVar 1) HA.listOf) sSum) (eC (.int 2147483629)) oMod) (e2 (eC (.int 17)) (e1 (aCons (eVar 1) aNil) oLenA) oMul) oAdd))])))
def m__law_deck : List D → AH → Res D := fnM 2 1 b__law_deck
theorem ok__law_deck (T : Txt K w mg) : FnG P w K mg base 1 T._law_deck.a T._law_deck.fd ["_law_script"] m__law_deck := by
  refine fnG T._law_deck.F sc__law_deck (fun cdv A lo s H E hr => ?_)
  exact (pzs_cons (pz_set sc__law_deck.nd rfl (by first | exact Or.inl rfl | exact Or.inr rfl) (pd_new (pg_callST cs_list rfl T.n_list (by decide +kernel) (pq_l (pl_cut (pd_var 0) pp_none (pp_some pd_int))))))
    (pzs_one (pz_ret (pd_disp (.cons pd_str (pd_var 1) (.cons pd_str pd_int (.cons pd_str (pd_op od_add (pd_op od_mod (pg_callSB (cs_sum rfl) rfl T.n_sum (by decide +kernel) (pm_d (pd_var 1))) pd_int) (pd_op od_mul pd_int (pd_callB cd_len rfl T.n_len (by decide +kernel) (pas_cons (pd_var 1) pas_nil)))) PDs.nil)))))))
theorem sc__law_draw : FnScope ["_law_deck_here", "_law_bound", "_law_at", "_law_cells", "_law_seed", "_law_number"] ["_law_deck_here", "_law_bound"] (defScope s__law_draw) := ⟨rfl, rfl, rfl, by decide +kernel, rfl, by decide +kernel, by decide +kernel⟩
def b__law_draw : SM := (sSeq (sPut (eVar 0) (eC (.str "at")) (e2 (e2 (eVar 0) (eC (.str "at")) oGet) (eC (.int 1)) oAdd)) (sSeq (sAsg (e2 (eVar 0) (eC (.str "at")) oGet) (gSet 2)) (sSeq (sAsg (e2 (eVar 0) (eC (.str "cells")) oGet) (gSet 3)) (sSeq (sAsg (e2 (e2 (eVar 0) (eC (.str "sum")) oGet) (eVar 2) oAddA) (gSet 4)) (sSeq (sIf (bNil true (e1 (eVar 3) HA.listOf)) (sSeq (sAsg (eMt (eVar 3) (aCons (eC (.int 0)) aNil) mPop) (gSet 4)) (sIf (e2 (eVar 4) (e2 (eC (.int 10)) (eC (.int 18)) oPow) cGe) (sSeq (sExpr (eMt (eVar 3) (aCons (eC (.int 0)) (aCons (e2 (eVar 4) (eVar 1) oFdiv) aNil)) mInsert)) (sRet (e2 (eVar 4) (eVar 1) oMod))) sSkip)) sSkip) (sSeq (sAsg (e2 (e2 (e2 (e2 (e2 (eVar 4) (eC (.int 2147483647)) oMod) (eC (.int 48271)) oMul) (e2 (e2 (eC (.int 69621)) (eVar 2) oMul) (eVar 2) oMul) oAdd) (eC (.int 7919)) oAdd) (eC (.int 2147483629)) oMod) (gSet 5)) (sSeq (sAsg (e2 (e2 (eVar 5) (eVar 5) oMul) (eC (.int 2147483587)) oMod) (gSet 5)) (sRet (e2 (e2 (e2 (e2 (eVar 5) (e2 (eVar 5) (eC (.int 39373)) oAdd) oMul) (eC (.int 2147483563)) oMod) (eC (.int 64)) oFdiv) (eVar 1) oMod)))))))))
def m__law_draw : List D → AH → Res D := fnM 6 2 b__law_draw
theorem ok__law_draw (T : Txt K w mg) : FnG P w K mg base 1 T._law_draw.a T._law_draw.fd ["_law_deck_here", "_law_bound"] m__law_draw := by
  refine fnG T._law_draw.F sc__law_draw (fun cdv A lo s H E hr => ?_)
  exact (pzs_cons (pz_put hr (pd_var 0) pd_str (pd_op od_add (pd_get hr (pd_var 0) pd_str) pd_int))
    (pzs_cons (pz_set sc__law_draw.nd rfl (by first | exact Or.inl rfl | exact Or.inr rfl) (pd_get hr (pd_var 0) pd_str))
    (pzs_cons (pz_set sc__law_draw.nd rfl (by first | exact Or.inl rfl | exact Or.inr rfl) (pd_get hr (pd_var 0) pd_str))
    (pzs_cons (pz_set sc__law_draw.nd rfl (by first | exact Or.inl rfl | exact Or.inr rfl) (pd_op od_addA (pd_get hr (pd_var 0) pd_str) (pd_var 2)))
    (pzs_cons (pz_if (pb_notNil hr (pm_d (pd_var 3))) (pzs_cons (pz_set sc__law_draw.nd rfl (by first | exact Or.inl rfl | exact Or.inr rfl) (pd_ml PySem.F.plainAttrs_list PySem.F.slot_list_pop PySem.F.type_list_pop md_pop (pd_var 3) (pas_cons pd_int pas_nil)))
    (pzs_one (pz_if (pb_cmp od_ge (pd_var 4) (pd_op od_pow pd_int pd_int)) (pzs_cons (pz_expr (pd_ml PySem.F.plainAttrs_list PySem.F.slot_list_insert PySem.F.type_list_insert md_insert (pd_var 3) (pas_cons pd_int (pas_cons (pd_op od_fdiv (pd_var 4) (pd_var 1)) pas_nil))))
    (pzs_one (pz_ret (pd_op od_mod (pd_var 4) (pd_var 1))))) pzs_nil))) pzs_nil)
    (pzs_cons (pz_set sc__law_draw.nd rfl (by first | exact Or.inl rfl | exact Or.inr rfl) (pd_op od_mod (pd_op od_add (pd_op od_add (pd_op od_mul (pd_op od_mod (pd_var 4) pd_int) pd_int) (pd_op od_mul (pd_op od_mul pd_int (pd_var 2)) (pd_var 2))) pd_int) pd_int))
    (pzs_cons (pz_set sc__law_draw.nd rfl (by first | exact Or.inl rfl | exact Or.inr rfl) (pd_op od_mod (pd_op od_mul (pd_var 5) (pd_var 5)) pd_int))
    (pzs_one (pz_ret (pd_op od_mod (pd_op od_fdiv (pd_op od_mod (pd_op od_mul (pd_var 5) (pd_op od_add (pd_var 5) pd_int)) pd_int) pd_int) (pd_var 1)))))))))))
theorem sc__law_words : FnScope ["_law_found"] [] (defScope s__law_words) := ⟨rfl, rfl, rfl, by decide +kernel, rfl, by decide +kernel, by decide +kernel⟩
def b__law_words : SM := (sSeq (sAsg (eNew (lLst (aCons (eTup (aCons (eC (.str "cast")) (aCons (eNew (lLst (aCons (eC (.str "none")) (aCons (eC (.str "shown")) (aCons (eC (.str "any")) aNil))))) aNil))) (aCons (eTup (aCons (eC (.str "order")) (aCons (eNew (lLst (aCons (eC (.str "none")) (aCons (eC (.str "number")) aNil)))) aNil))) aNil)))) (gSet 0)) (sRet (eNew (e2 (tOur (eVar 0)) (tNew (lLst (aCons (eTup (aCons (eC (.str "alike")) (aCons (eNew (lLst (aCons (eC (.str "none")) (aCons (eC (.str "number")) (aCons (eC (.str "whence")) aNil))))) aNil))) (aCons (eTup (aCons (eC (.str "stale")) (aCons (eNew (lLst (aCons (eC (.str "none")) (aCons (eC (.str "let")) aNil)))) aNil))) aNil)))) lCat))))
def m__law_words : List D → AH → Res D := fnR 1 0 b__law_words
theorem ok__law_words (T : Txt K w mg) : FnG P w K mg base 1 T._law_words.a T._law_words.fd [] m__law_words := by
  refine fnG_R T._law_words.F sc__law_words (fun cdv A lo s H E hr => ?_)
  exact (pzs_cons (pz_set sc__law_words.nd rfl (by first | exact Or.inl rfl | exact Or.inr rfl) (pd_new (pl_lst (pas_cons (pd_tup (pas_cons pd_str (pas_cons (pd_new (pl_lst (pas_cons pd_str (pas_cons pd_str (pas_cons pd_str pas_nil))))) pas_nil))) (pas_cons (pd_tup (pas_cons pd_str (pas_cons (pd_new (pl_lst (pas_cons pd_str (pas_cons pd_str pas_nil)))) pas_nil))) pas_nil)))))
    (pzs_one (pz_ret (pd_new (pl_cat (plt_d (pd_var 0)) (plt_l (pl_lst (pas_cons (pd_tup (pas_cons pd_str (pas_cons (pd_new (pl_lst (pas_cons pd_str (pas_cons pd_str (pas_cons pd_str pas_nil))))) pas_nil))) (pas_cons (pd_tup (pas_cons pd_str (pas_cons (pd_new (pl_lst (pas_cons pd_str (pas_cons pd_str pas_nil)))) pas_nil))) pas_nil)))))))))
theorem sc__law_all_rules : FnScope ["_law_found", "_law_field", "_law_words_here", "_law_longer", "_law_some", "_law_word"] [] (defScope s__law_all_rules) := ⟨rfl, rfl, rfl, by decide +kernel, rfl, by decide +kernel, by decide +kernel⟩
def b__law_all_rules : SM := (sSeq (sAsg (eNew (lLst (aCons (eTup aNil) aNil))) (gSet 0)) (sSeq (sFor (e1 (fun _ ah => m__law_words [] ah) iVal) (gTupD 2 (gConsD (gSet 1) (gConsD (gSet 2) gNilD))) (sSeq (sAsg (eNew (lLst aNil)) (gSet 3)) (sSeq (sFor (e1 (eVar 0) iVal) (gSet 4) (sExpr (eMt (eVar 3) (aCons (eNew (lLc (e1 (eVar 2) iVal) (gSet 5) bYes (e2 (eVar 4) (eTup (aCons (eVar 5) aNil)) oAdd) [5])) aNil) mExtend))) (sAsg (eVar 3) (gSet 0))))) (sRet (eVar 0))))
def m__law_all_rules : List D → AH → Res D := fnR 6 0 b__law_all_rules
theorem ok__law_all_rules (T : Txt K w mg) : FnG P w K mg base 2 T._law_all_rules.a T._law_all_rules.fd [] m__law_all_rules := by
  have H__law_words : FnG P w K mg base 1 T._law_words.a T._law_words.fd [] (m__law_words) := (ok__law_words T).mono (by omega)
  refine fnG_R T._law_all_rules.F sc__law_all_rules (fun cdv A lo s H E hr => ?_)
  exact (pzs_cons (pz_set sc__law_all_rules.nd rfl (by first | exact Or.inl rfl | exact Or.inr rfl) (pd_new (pl_lst (pas_cons (pd_tup pas_nil) pas_nil))))
    (pzs_cons (pz_for (passes_of rfl) rfl (pf_d (pd_call0 H__law_words hr rfl T._law_words.g T._law_words.k T._law_words.b (takes_f rfl rfl rfl rfl))) (pt_tup rfl (ptn_cons (pt_name sc__law_all_rules.nd rfl (by first | exact Or.inl rfl | exact Or.inr rfl)) (ptn_cons (pt_name sc__law_all_rules.nd rfl (by first | exact Or.inl rfl | exact Or.inr rfl)) ptn_nil))) (pzs_cons (pz_set sc__law_all_rules.nd rfl (by first | exact Or.inl rfl | exact Or.inr rfl) (pd_new (pl_lst pas_nil)))
    (pzs_cons (pz_for (passes_of rfl) rfl (pf_d (pd_var 0)) (pt_name sc__law_all_rules.nd rfl (by first | exact Or.inl rfl | exact Or.inr rfl)) (pzs_one (pz_expr (pd_ml PySem.F.plainAttrs_list PySem.F.slot_list_extend PySem.F.type_list_extend md_extend (pd_var 3) (pas_cons (pd_new (pl_lcv rfl sc__law_all_rules.nd (pf_d (pd_var 2)) (blkOk_by (N := ["_law_found", "_law_field", "_law_words_here", "_law_longer", "_law_some", "_law_word"]) (sc := defScope s__law_all_rules) (own := [("_law_word", 5)]) (by decide +kernel)) rfl (by decide) (fun _ _ _ _ _ => (pt_name sc__law_all_rules.nd rfl (by first | exact Or.inl rfl | exact Or.inr rfl))) (fun _ _ _ _ _ => ptsd_nil) (fun _ _ _ _ _ => (pd_op od_add (pd_var 4) (pd_tup (pas_cons (pd_var 5) pas_nil)))))) pas_nil)))))
    (pzs_one (pz_set sc__law_all_rules.nd rfl (by first | exact Or.inl rfl | exact Or.inr rfl) (pd_var 3))))))
    (pzs_one (pz_ret (pd_var 0)))))
theorem sc_Rule___init__ : FnScope ["self", "cast", "order", "alike", "stale", "field", "word"] ["self", "cast", "order", "alike", "stale"] (defScope s_Rule___init__) := ⟨rfl, rfl, rfl, by decide +kernel, rfl, by decide +kernel, by decide +kernel⟩
def b_Rule___init__ : SM := (sSeq (sFor (e2 (eC c_FIELDS) (eTup (aCons (eVar 1) (aCons (eVar 2) (aCons (eVar 3) (aCons (eVar 4) aNil))))) (iZipD true)) (gTupD 2 (gConsD (gSet 5) (gConsD (gSet 6) gNilD))) (sIf (bOr (bNot (e1 (e1 (aCons (eVar 6) (aCons (eC (.cst (.ty "str"))) aNil)) oIsi) truth)) (e2 (eVar 6) (e1 (eVar 5) (oCD c_WORDS)) cNotIn)) (sRaise "NoRule" "field" (aCons (eVar 5) aNil)) sSkip)) (sSeq (sFldS clss (eVar 0) (eVar 1) "cast") (sSeq (sFldS clss (eVar 0) (eVar 2) "order") (sSeq (sFldS clss (eVar 0) (eVar 3) "alike") (sFldS clss (eVar 0) (eVar 4) "stale")))))
def m_Rule___init__ : List D → AH → Res D := fnR 7 5 b_Rule___init__
theorem ok_Rule___init__ (T : Txt K w mg) : FnG P w K mg base 3 T.Rule.a T.Rule.fd ["self", "cast", "order", "alike", "stale"] m_Rule___init__ := by
  refine fnG_R T.Rule.F sc_Rule___init__ (fun cdv A lo s H E hr => ?_)
  exact (pzs_cons (pz_for (passes_of rfl) rfl (pf_zipS rfl T.n_zip (pd_const rfl T.c_FIELDS) (pd_tup (pas_cons (pd_var 1) (pas_cons (pd_var 2) (pas_cons (pd_var 3) (pas_cons (pd_var 4) pas_nil))))) (pks_cons pd_bl pks_nil)) (pt_tup rfl (ptn_cons (pt_name sc_Rule___init__.nd rfl (by first | exact Or.inl rfl | exact Or.inr rfl)) (ptn_cons (pt_name sc_Rule___init__.nd rfl (by first | exact Or.inl rfl | exact Or.inr rfl)) ptn_nil))) (pzs_one (pz_if (pbw (pbw_or (pb_not (pb_val (pd_callB cd_isi rfl T.n_isinstance (by decide +kernel) (pas_cons (pd_var 6) (pas_cons (pd_ty rfl T.n_str (by decide +kernel)) pas_nil))))) (pbw_or1 (pb_cmp (od_notIn hr) (pd_var 6) (pd_cdict T.c_WORDS rfl (pd_var 5) (fun _ _ => rfl)))))) (pzs_one (pz_raiseX T.x_NoRule hr rfl (takes_f rfl rfl rfl rfl) rfl (pas_cons (pd_var 5) pas_nil))) pzs_nil)))
    (pzs_cons (pz_fld T.clss (pd_var 0) (pd_var 1))
    (pzs_cons (pz_fld T.clss (pd_var 0) (pd_var 2))
    (pzs_cons (pz_fld T.clss (pd_var 0) (pd_var 3))
    (pzs_one (pz_fld T.clss (pd_var 0) (pd_var 4)))))))
theorem sc__law_rule : FnScope ["_law_some"] ["_law_some"] (defScope s__law_rule) := ⟨rfl, rfl, rfl, by decide +kernel, rfl, by decide +kernel, by decide +kernel⟩
def b__law_rule : SM := (sRet (eMk "Rule" m_Rule___init__ (fun us ws => pick (0 :: [0, 1, 2, 3].map (· + 1)) us ws) aNil (aCons (e2 (eVar 0) (eC (.int 0)) oIx) (aCons (e2 (eVar 0) (eC (.int 1)) oIx) (aCons (e2 (eVar 0) (eC (.int 2)) oIx) (aCons (e2 (eVar 0) (eC (.int 3)) oIx) aNil))))))
def m__law_rule : List D → AH → Res D := fnR 1 1 b__law_rule
theorem ok__law_rule (T : Txt K w mg) : FnG P w K mg base 5 T._law_rule.a T._law_rule.fd ["_law_some"] m__law_rule := by
  have H_Rule___init__ : FnG P w K mg base 3 T.Rule.a T.Rule.fd ["self", "cast", "order", "alike", "stale"] m_Rule___init__ := (ok_Rule___init__ T).mono (by omega)
  refine fnG_R T._law_rule.F sc__law_rule (fun cdv A lo s H E hr => ?_)
  exact (pzs_one (pz_ret (pd_mkK T.Rule.M H_Rule___init__ hr rfl T.Rule.g (kb_pick (ps := ["self", "cast", "order", "alike", "stale"]) (ks := ["cast", "order", "alike", "stale"]) (n := 1) (0 :: [0, 1, 2, 3].map (· + 1)) T.Rule.F rfl (by decide) fun _ _ _ _ _ _ us ws h1 h2 => match us, ws, h1, h2 with | [_], [_, _, _, _], _, _ => rfl) (takes_f rfl rfl rfl rfl) (pks_cons (pd_ix (pd_var 0) pd_int) (pks_cons (pd_ix (pd_var 0) pd_int) (pks_cons (pd_ix (pd_var 0) pd_int) (pks_cons (pd_ix (pd_var 0) pd_int) pks_nil)))) (many_cons (many_cons (many_cons (many_cons many_nil)))))))
theorem sc__law_due : FnScope ["_law_some", "_law_more", "_law_one", "_law_two"] ["_law_some", "_law_more"] (defScope s__law_due) := ⟨rfl, rfl, rfl, by decide +kernel, rfl, by decide +kernel, by decide +kernel⟩
def b__law_due : SM := (sRet (eB (bNil false (lLc (e2 (eVar 0) (eVar 1) (iZipD false)) (gTupD 2 (gConsD (gSet 2) (gConsD (gSet 3) gNilD))) (e2 (eVar 2) (eTup (aCons (eC (.str "none")) (aCons (eVar 3) aNil))) cNotIn) (eC (.int 1)) [2, 3]))))
def m__law_due : List D → AH → Res D := fnR 4 2 b__law_due
theorem ok__law_due (T : Txt K w mg) : FnG P w K mg base 1 T._law_due.a T._law_due.fd ["_law_some", "_law_more"] m__law_due := by
  refine fnG_R T._law_due.F sc__law_due (fun cdv A lo s H E hr => ?_)
  exact (pzs_one (pz_ret (pd_nil hr (pm_l (pl_lcv rfl sc__law_due.nd (pf_zip rfl T.n_zip (pd_var 0) (pd_var 1)) (blkOk_by (N := ["_law_some", "_law_more", "_law_one", "_law_two"]) (sc := defScope s__law_due) (own := [("_law_one", 2), ("_law_two", 3)]) (by decide +kernel)) rfl (by decide) (fun _ _ _ _ _ => (pt_tup rfl (ptn_cons (pt_name sc__law_due.nd rfl (by first | exact Or.inl rfl | exact Or.inr rfl)) (ptn_cons (pt_name sc__law_due.nd rfl (by first | exact Or.inl rfl | exact Or.inr rfl)) ptn_nil)))) (fun _ _ _ _ _ => (ptsd_one (pb_cmp (od_notIn hr) (pd_var 2) (pd_tup (pas_cons pd_str (pas_cons (pd_var 3) pas_nil)))))) (fun _ _ _ _ _ => pd_int))))))
theorem sc_Rule___eq__ : FnScope ["self", "other", "mine"] ["self", "other"] (defScope s_Rule___eq__) := ⟨rfl, rfl, rfl, by decide +kernel, rfl, by decide +kernel, by decide +kernel⟩
def b_Rule___eq__ : SM := (sSeq (sIf (bNot (e1 (e1 (aCons (eVar 1) (aCons (eC (.glo "Rule")) aNil)) (oIsiO isos)) truth)) (sRet (eC (.bl false))) sSkip) (sSeq (sAsg (eTup (aCons (e1 (eVar 0) (oFld clss "cast")) (aCons (e1 (eVar 0) (oFld clss "order")) (aCons (e1 (eVar 0) (oFld clss "alike")) (aCons (e1 (eVar 0) (oFld clss "stale")) aNil))))) (gSet 2)) (sRet (eB (e2 (eVar 2) (eTup (aCons (e1 (eVar 1) (oFld clss "cast")) (aCons (e1 (eVar 1) (oFld clss "order")) (aCons (e1 (eVar 1) (oFld clss "alike")) (aCons (e1 (eVar 1) (oFld clss "stale")) aNil))))) cEq)))))
def m_Rule___eq__ : List D → AH → Res D := fnR 3 2 b_Rule___eq__
theorem ok_Rule___eq__ (T : Txt K w mg) : FnG P w K mg base 5 T.M_Rule___eq__.a T.M_Rule___eq__.fd ["self", "other"] m_Rule___eq__ := by
  refine fnG_R T.M_Rule___eq__.F sc_Rule___eq__ (fun cdv A lo s H E hr => ?_)
  exact (pzs_cons (pz_if (pb_not (pb_val (pd_callB (cd_isiO T.isos) rfl T.n_isinstance (by decide +kernel) (pas_cons (pd_var 1) (pas_cons (pd_glo rfl T.g_Rule) pas_nil))))) (pzs_one (pz_ret pd_bl)) pzs_nil)
    (pzs_cons (pz_set sc_Rule___eq__.nd rfl (by first | exact Or.inl rfl | exact Or.inr rfl) (pd_tup (pas_cons (pd_fld T.clss (pd_var 0)) (pas_cons (pd_fld T.clss (pd_var 0)) (pas_cons (pd_fld T.clss (pd_var 0)) (pas_cons (pd_fld T.clss (pd_var 0)) pas_nil))))))
    (pzs_one (pz_ret (pd_cmp (od_eq hr) (pd_var 2) (pd_tup (pas_cons (pd_fld T.clss (pd_var 1)) (pas_cons (pd_fld T.clss (pd_var 1)) (pas_cons (pd_fld T.clss (pd_var 1)) (pas_cons (pd_fld T.clss (pd_var 1)) pas_nil))))))))))
theorem sc_Rule_four_words : FnScope ["self"] ["self"] (defScope s_Rule_four_words) := ⟨rfl, rfl, rfl, by decide +kernel, rfl, by decide +kernel, by decide +kernel⟩
def b_Rule_four_words : SM := (sRet (eTup (aCons (e1 (eVar 0) (oFld clss "cast")) (aCons (e1 (eVar 0) (oFld clss "order")) (aCons (e1 (eVar 0) (oFld clss "alike")) (aCons (e1 (eVar 0) (oFld clss "stale")) aNil))))))
def m_Rule_four_words : List D → AH → Res D := fnR 1 1 b_Rule_four_words
theorem ok_Rule_four_words (T : Txt K w mg) : FnG P w K mg base 1 T.M_Rule_four_words.a T.M_Rule_four_words.fd ["self"] m_Rule_four_words := by
  refine fnG_R T.M_Rule_four_words.F sc_Rule_four_words (fun cdv A lo s H E hr => ?_)
  exact (pzs_one (pz_ret (pd_tup (pas_cons (pd_fld T.clss (pd_var 0)) (pas_cons (pd_fld T.clss (pd_var 0)) (pas_cons (pd_fld T.clss (pd_var 0)) (pas_cons (pd_fld T.clss (pd_var 0)) pas_nil)))))))
theorem sc_Rule_lets_no_more : FnScope ["self", "other", "pairs", "mine", "theirs"] ["self", "other"] (defScope s_Rule_lets_no_more) := ⟨rfl, rfl, rfl, by decide +kernel, rfl, by decide +kernel, by decide +kernel⟩
def b_Rule_lets_no_more : SM := (sSeq (sAsg (eNew (e2 (eMeth "four_words" [("Rule", m_Rule_four_words)] (fun ds fs => pick [0] ds fs) (eVar 0) aNil aNil) (eMeth "four_words" [("Rule", m_Rule_four_words)] (fun ds fs => pick [0] ds fs) (eVar 1) aNil aNil) lZip)) (gSet 2)) (sRet (e1 (lLc (e1 (eVar 2) iVal) (gTupD 2 (gConsD (gSet 3) (gConsD (gSet 4) gNilD))) bYes (eB (e2 (eVar 3) (eTup (aCons (eC c_NONE) (aCons (eVar 4) aNil))) cIn)) [3, 4]) sAll)))
def m_Rule_lets_no_more : List D → AH → Res D := fnR 5 2 b_Rule_lets_no_more
theorem ok_Rule_lets_no_more (T : Txt K w mg) : FnG P w K mg base 2 T.M_Rule_lets_no_more.a T.M_Rule_lets_no_more.fd ["self", "other"] m_Rule_lets_no_more := by
  have H_Rule_four_words : FnG P w K mg base 1 T.M_Rule_four_words.a T.M_Rule_four_words.fd ["self"] (m_Rule_four_words) := (ok_Rule_four_words T).mono (by omega)
  refine fnG_R T.M_Rule_lets_no_more.F sc_Rule_lets_no_more (fun cdv A lo s H E hr => ?_)
  exact (pzs_cons (pz_set sc_Rule_lets_no_more.nd rfl (by first | exact Or.inl rfl | exact Or.inr rfl) (pd_new (pl_listZip rfl rfl T.n_list rfl T.n_zip (pd_meth (pd_var 0) (List.forall_mem_cons.mpr ⟨⟨⟨T.M_Rule_four_words.a, T.M_Rule_four_words.fd, _, T.M_Rule_four_words.cl, T.M_Rule_four_words.M, H_Rule_four_words, (KB.kbd (kb_pick (ps := ["self"]) (ks := []) (n := 1) [0] T.M_Rule_four_words.F rfl (by decide) fun _ _ _ _ _ _ us ws h1 h2 => match us, ws, h1, h2 with | [_], [], _, _ => rfl))⟩⟩, (fun q hq => nomatch hq)⟩) hr (takes_f rfl rfl rfl rfl) .none) (pd_meth (pd_var 1) (List.forall_mem_cons.mpr ⟨⟨⟨T.M_Rule_four_words.a, T.M_Rule_four_words.fd, _, T.M_Rule_four_words.cl, T.M_Rule_four_words.M, H_Rule_four_words, (KB.kbd (kb_pick (ps := ["self"]) (ks := []) (n := 1) [0] T.M_Rule_four_words.F rfl (by decide) fun _ _ _ _ _ _ us ws h1 h2 => match us, ws, h1, h2 with | [_], [], _, _ => rfl))⟩⟩, (fun q hq => nomatch hq)⟩) hr (takes_f rfl rfl rfl rfl) .none))))
    (pzs_one (pz_ret (pg_callSB (cs_all rfl) rfl T.n_all (by decide +kernel) (pm_l (pl_lcv rfl sc_Rule_lets_no_more.nd (pf_d (pd_var 2)) (blkOk_by (N := ["self", "other", "pairs", "mine", "theirs"]) (sc := defScope s_Rule_lets_no_more) (own := [("mine", 3), ("theirs", 4)]) (by decide +kernel)) rfl (by decide) (fun _ _ _ _ _ => (pt_tup rfl (ptn_cons (pt_name sc_Rule_lets_no_more.nd rfl (by first | exact Or.inl rfl | exact Or.inr rfl)) (ptn_cons (pt_name sc_Rule_lets_no_more.nd rfl (by first | exact Or.inl rfl | exact Or.inr rfl)) ptn_nil)))) (fun _ _ _ _ _ => ptsd_nil) (fun _ _ _ _ _ => (pd_cmp (od_in hr) (pd_var 3) (pd_tup (pas_cons (pd_const rfl T.c_NONE) (pas_cons (pd_var 4) pas_nil)))))))))))
theorem sc_Rule___str__ : FnScope ["self"] ["self"] (defScope s_Rule___str__) := ⟨rfl, rfl, rfl, by decide +kernel, rfl, by decide +kernel, by decide +kernel⟩
def b_Rule___str__ : SM := (sRet (e2 (e2 (e2 (e2 (e2 (e2 (e2 (eC (.str Str.empty)) (e1 (eVar 0) (oFld clss "cast")) oJ) (eC (.str " ")) oJ) (e1 (eVar 0) (oFld clss "order")) oJ) (eC (.str " ")) oJ) (e1 (eVar 0) (oFld clss "alike")) oJ) (eC (.str " ")) oJ) (e1 (eVar 0) (oFld clss "stale")) oJ))
def m_Rule___str__ : List D → AH → Res D := fnR 1 1 b_Rule___str__
theorem ok_Rule___str__ (T : Txt K w mg) : FnG P w K mg base 1 T.M_Rule___str__.a T.M_Rule___str__.fd ["self"] m_Rule___str__ := by
  refine fnG_R T.M_Rule___str__.F sc_Rule___str__ (fun cdv A lo s H E hr => ?_)
  exact (pzs_one (pz_ret (pd_joined (ms := [(e1 (eVar 0) (oFld clss "cast")), (eC (.str " ")), (e1 (eVar 0) (oFld clss "order")), (eC (.str " ")), (e1 (eVar 0) (oFld clss "alike")), (eC (.str " ")), (e1 (eVar 0) (oFld clss "stale"))]) (.fmt (pd_fld T.clss (pd_var 0)) (.txt (.fmt (pd_fld T.clss (pd_var 0)) (.txt (.fmt (pd_fld T.clss (pd_var 0)) (.txt (.fmt (pd_fld T.clss (pd_var 0)) .nil))))))))))
theorem sc_law : FnScope ["_law_script", "_law_deck_here", "_law_every", "_law_left", "_law_mixed", "_law_made", "_law_told", "_law_k", "_law_turn", "_law_j", "_law_some", "_law_found", "_law_one", "_law_two", "_law_three"] ["_law_script"] (defScope s_law) := ⟨rfl, rfl, rfl, by decide +kernel, rfl, by decide +kernel, by decide +kernel⟩
def b_law : SM := (sSeq (sAsg (e1 (aCons (eVar 0) aNil) m__law_deck) (gSet 1)) (sSeq (sAsg (fun _ ah => m__law_all_rules [] ah) (gSet 2)) (sSeq (sAsg (eNew (e1 (eC (.int 36)) lRange1)) (gSet 3)) (sSeq (sAsg (eNew (lLc (e1 (eC (.int 36)) iRange1) (gSet 7) bYes (eMt (eVar 3) (aCons (e1 (aCons (eVar 1) (aCons (e1 (aCons (eVar 3) aNil) oLenA) aNil)) m__law_draw) aNil) mPop) [7])) (gSet 4)) (sSeq (sAsg (eNew (lLc (e1 (eVar 2) iVal) (gSet 10) bYes (e1 (aCons (eVar 10) aNil) m__law_rule) [10])) (gSet 5)) (sSeq (sAsg eDnewT (gSet 6)) (sSeq (sFor (e1 (eVar 4) iVal) (gSet 7) (sFor (iNew (e1 (e1 (eVar 4) HA.listOf) lRevL)) (gSet 9) (sSeq (sAsg (eNew (lLst (aCons (eMeth "lets_no_more" [("Rule", m_Rule_lets_no_more)] (fun ds fs => pick [0, 1] ds fs) (e2 (eVar 5) (eVar 7) oIx) (aCons (e2 (eVar 5) (eVar 9) oIx) aNil) aNil) (aCons (eMeth "lets_no_more" [("Rule", m_Rule_lets_no_more)] (fun ds fs => pick [0, 1] ds fs) (e2 (eVar 5) (eVar 7) oIx) aNil (aCons (e2 (eVar 5) (eVar 9) oIx) aNil)) aNil)))) (gSet 11)) (sSeq (sIf (e2 (e1 (aCons (eVar 11) aNil) oRepr) (e1 (e2 (tNew (lLst (aCons (e1 (aCons (e2 (eVar 2) (eVar 7) oIx) (aCons (e2 (eVar 2) (eVar 9) oIx) aNil)) m__law_due) aNil))) (eC (.int 2)) lRep) lRepr) cNe) (sRet (eC (.bl false))) sSkip) (sPutT (eVar 6) (aCons (eVar 7) (aCons (eVar 9) aNil)) (e2 (eVar 11) (eC (.int 0)) oIx)))))) (sSeq (sFor (e1 (eC (.int 200)) iRange1) (gSet 8) (sSeq (sPar3 12 13 14 (aCons (e1 (aCons (eVar 1) (aCons (eC (.int 36)) aNil)) m__law_draw) (aCons (e1 (aCons (eVar 1) (aCons (eC (.int 36)) aNil)) m__law_draw) (aCons (e1 (aCons (eVar 1) (aCons (eC (.int 36)) aNil)) m__law_draw) aNil)))) (sSeq (sIf (bAnd (e1 (e2 (eVar 6) (aCons (eVar 12) (aCons (eVar 13) aNil)) oGetT) truth) (bAnd (e1 (e2 (eVar 6) (aCons (eVar 13) (aCons (eVar 14) aNil)) oGetT) truth) (bNot (e1 (e2 (eVar 6) (aCons (eVar 12) (aCons (eVar 14) aNil)) oGetT) truth)))) (sRet (eC (.bl false))) sSkip) (sIf (bOr (bNot (e1 (e2 (eVar 6) (aCons (eVar 12) (aCons (eVar 12) aNil)) oGetT) truth)) (bOr (bNot (e1 (e2 (eVar 6) (aCons (eC (.int 0)) (aCons (eVar 12) aNil)) oGetT) truth)) (e2 (e2 (eVar 5) (eVar 12) oIx) (e1 (aCons (e2 (eVar 2) (eVar 12) oIx) aNil) m__law_rule) (cEqM [("Rule", m_Rule___eq__)] true)))) (sRet (eC (.bl false))) sSkip)))) (sRet (eAnd (eB (e2 (e2 (eVar 2) (eC (.int 0)) oIx) (e2 (eTup (aCons (eC (.str "none")) aNil)) (eC (.int 4)) oMulT) cEq)) (eB (bNil false (lLc (e1 (eC (.int 36)) iRange1) (gSet 7) (e2 (e1 (aCons (e2 (eVar 5) (eVar 7) oIx) aNil) (oStrM [("Rule", m_Rule___str__)])) (eMs (eC (.str " ")) (aCons (e2 (eVar 2) (eVar 7) oIx) aNil) mJoin) cNe) (eVar 7) [7])))))))))))))
def m_law : List D → AH → Res D := fnR 15 1 b_law
theorem ok_law (T : Txt K w mg) : FnG P w K mg base 7 T.law.a T.law.fd ["_law_script"] m_law := by
  have H__law_deck : FnG P w K mg base 6 T._law_deck.a T._law_deck.fd ["_law_script"] (m__law_deck) := (ok__law_deck T).mono (by omega)
  have H__law_all_rules : FnG P w K mg base 6 T._law_all_rules.a T._law_all_rules.fd [] (m__law_all_rules) := (ok__law_all_rules T).mono (by omega)
  have H__law_draw : FnG P w K mg base 6 T._law_draw.a T._law_draw.fd ["_law_deck_here", "_law_bound"] (m__law_draw) := (ok__law_draw T).mono (by omega)
  have H__law_rule : FnG P w K mg base 6 T._law_rule.a T._law_rule.fd ["_law_some"] (m__law_rule) := (ok__law_rule T).mono (by omega)
  have H_Rule_lets_no_more : FnG P w K mg base 6 T.M_Rule_lets_no_more.a T.M_Rule_lets_no_more.fd ["self", "other"] (m_Rule_lets_no_more) := (ok_Rule_lets_no_more T).mono (by omega)
  have H__law_due : FnG P w K mg base 6 T._law_due.a T._law_due.fd ["_law_some", "_law_more"] (m__law_due) := (ok__law_due T).mono (by omega)
  have H_Rule___eq__ : FnG P w K mg base 5 T.M_Rule___eq__.a T.M_Rule___eq__.fd ["self", "other"] (m_Rule___eq__) := (ok_Rule___eq__ T).mono (by omega)
  have H_Rule___str__ : FnG P w K mg base 4 T.M_Rule___str__.a T.M_Rule___str__.fd ["self"] (m_Rule___str__) := (ok_Rule___str__ T).mono (by omega)
  refine fnG_R T.law.F sc_law (fun cdv A lo s H E hr => ?_)
  exact (pzs_cons (pz_set sc_law.nd rfl (by first | exact Or.inl rfl | exact Or.inr rfl) (pd_call H__law_deck hr rfl T._law_deck.g T._law_deck.k T._law_deck.b (takes_f rfl rfl rfl rfl) (pas_cons (pd_var 0) pas_nil) (many_cons many_nil)))
    (pzs_cons (pz_set sc_law.nd rfl (by first | exact Or.inl rfl | exact Or.inr rfl) (pd_call0 H__law_all_rules hr rfl T._law_all_rules.g T._law_all_rules.k T._law_all_rules.b (takes_f rfl rfl rfl rfl)))
    (pzs_cons (pz_set sc_law.nd rfl (by first | exact Or.inl rfl | exact Or.inr rfl) (pd_new (pl_range1 rfl rfl T.n_list rfl T.n_range pd_int)))
    (pzs_cons (pz_setLcv rfl sc_law.nd rfl rfl (sw_true rfl rfl rfl (by decide +kernel)) (pf_range1 rfl T.n_range pd_int) (blkOk_by (N := ["_law_script", "_law_deck_here", "_law_every", "_law_left", "_law_mixed", "_law_made", "_law_told", "_law_k", "_law_turn", "_law_j", "_law_some", "_law_found", "_law_one", "_law_two", "_law_three"]) (sc := defScope s_law) (own := [("_law_k", 7)]) (by decide +kernel)) rfl (by decide) (fun _ _ _ _ _ => (pt_name sc_law.nd rfl (by first | exact Or.inl rfl | exact Or.inr rfl))) (fun _ _ _ _ _ => ptsd_nil) (fun _ _ _ _ _ => (pd_ml PySem.F.plainAttrs_list PySem.F.slot_list_pop PySem.F.type_list_pop md_pop (pd_var 3) (pas_cons (pd_call H__law_draw hr rfl T._law_draw.g T._law_draw.k T._law_draw.b HA.takes0 (pas_cons (pd_var 1) (pas_cons (pd_callB cd_len rfl T.n_len (by decide +kernel) (pas_cons (pd_var 3) pas_nil)) pas_nil)) (many_cons (many_cons many_nil))) pas_nil))))
    (pzs_cons (pz_set sc_law.nd rfl (by first | exact Or.inl rfl | exact Or.inr rfl) (pd_new (pl_lcv rfl sc_law.nd (pf_d (pd_var 2)) (blkOk_by (N := ["_law_script", "_law_deck_here", "_law_every", "_law_left", "_law_mixed", "_law_made", "_law_told", "_law_k", "_law_turn", "_law_j", "_law_some", "_law_found", "_law_one", "_law_two", "_law_three"]) (sc := defScope s_law) (own := [("_law_some", 10)]) (by decide +kernel)) rfl (by decide) (fun _ _ _ _ _ => (pt_name sc_law.nd rfl (by first | exact Or.inl rfl | exact Or.inr rfl))) (fun _ _ _ _ _ => ptsd_nil) (fun _ _ _ _ _ => (pd_call H__law_rule hr rfl T._law_rule.g T._law_rule.k T._law_rule.b HA.takes0 (pas_cons (pd_var 10) pas_nil) (many_cons many_nil))))))
    (pzs_cons (pz_set sc_law.nd rfl (by first | exact Or.inl rfl | exact Or.inr rfl) pd_dnewT)
    (pzs_cons (pz_for (passes_of rfl) rfl (pf_d (pd_var 4)) (pt_name sc_law.nd rfl (by first | exact Or.inl rfl | exact Or.inr rfl)) (pzs_one (pz_for (passes_of rfl) rfl (pf_l (pl_revL (pm_d (pd_var 4)))) (pt_name sc_law.nd rfl (by first | exact Or.inl rfl | exact Or.inr rfl)) (pzs_cons (pz_set sc_law.nd rfl (by first | exact Or.inl rfl | exact Or.inr rfl) (pd_new (pl_lst (pas_cons (pd_meth (pd_ix (pd_var 5) (pd_var 7)) (List.forall_mem_cons.mpr ⟨⟨⟨T.M_Rule_lets_no_more.a, T.M_Rule_lets_no_more.fd, _, T.M_Rule_lets_no_more.cl, T.M_Rule_lets_no_more.M, H_Rule_lets_no_more, (KB.kbd (kb_pick (ps := ["self", "other"]) (ks := []) (n := 2) [0, 1] T.M_Rule_lets_no_more.F rfl (by decide) fun _ _ _ _ _ _ us ws h1 h2 => match us, ws, h1, h2 with | [_, _], [], _, _ => rfl))⟩⟩, (fun q hq => nomatch hq)⟩) hr (takes_f rfl rfl rfl rfl) (.pos (pas_cons (pd_ix (pd_var 5) (pd_var 9)) pas_nil) (many_cons many_nil))) (pas_cons (pd_meth (pd_ix (pd_var 5) (pd_var 7)) (List.forall_mem_cons.mpr ⟨⟨⟨T.M_Rule_lets_no_more.a, T.M_Rule_lets_no_more.fd, _, T.M_Rule_lets_no_more.cl, T.M_Rule_lets_no_more.M, H_Rule_lets_no_more, (KB.kbd (kb_pick (ps := ["self", "other"]) (ks := ["other"]) (n := 1) [0, 1] T.M_Rule_lets_no_more.F rfl (by decide) fun _ _ _ _ _ _ us ws h1 h2 => match us, ws, h1, h2 with | [_], [_], _, _ => rfl))⟩⟩, (fun q hq => nomatch hq)⟩) hr (takes_f rfl rfl rfl rfl) (.kw (pks_cons (pd_ix (pd_var 5) (pd_var 9)) pks_nil) (many_cons many_nil))) pas_nil)))))
    (pzs_cons (pz_if (pb_cmp (od_ne hr) (pd_callB (cd_repr hr) rfl T.n_repr (by decide +kernel) (pas_cons (pd_var 11) pas_nil)) (pg_callSB (cs_repr hr) rfl T.n_repr (by decide +kernel) (pm_l (pl_rep (plt_l (pl_lst (pas_cons (pd_call H__law_due hr rfl T._law_due.g T._law_due.k T._law_due.b (takes_f rfl rfl rfl rfl) (pas_cons (pd_ix (pd_var 2) (pd_var 7)) (pas_cons (pd_ix (pd_var 2) (pd_var 9)) pas_nil)) (many_cons (many_cons many_nil))) pas_nil))) pd_int)))) (pzs_one (pz_ret pd_bl)) pzs_nil)
    (pzs_one (pz_putT hr (pd_var 6) (pas_cons (pd_var 7) (pas_cons (pd_var 9) pas_nil)) (pd_ix (pd_var 11) pd_int))))))))
    (pzs_cons (pz_for (passes_of rfl) rfl (pf_range1 rfl T.n_range pd_int) (pt_name sc_law.nd rfl (by first | exact Or.inl rfl | exact Or.inr rfl)) (pzs_cons (pz_par3W rfl sc_law.nd rfl rfl rfl (by decide) (by decide) (by decide) rfl rfl rfl (pas_cons (pd_call H__law_draw hr rfl T._law_draw.g T._law_draw.k T._law_draw.b (takes_f rfl rfl rfl rfl) (pas_cons (pd_var 1) (pas_cons pd_int pas_nil)) (many_cons (many_cons many_nil))) (pas_cons (pd_call H__law_draw hr rfl T._law_draw.g T._law_draw.k T._law_draw.b (takes_f rfl rfl rfl rfl) (pas_cons (pd_var 1) (pas_cons pd_int pas_nil)) (many_cons (many_cons many_nil))) (pas_cons (pd_call H__law_draw hr rfl T._law_draw.g T._law_draw.k T._law_draw.b (takes_f rfl rfl rfl rfl) (pas_cons (pd_var 1) (pas_cons pd_int pas_nil)) (many_cons (many_cons many_nil))) pas_nil))) rfl (by decide +kernel) (by decide +kernel) (by decide +kernel) (by decide +kernel) (by decide +kernel) (by decide +kernel))
    (pzs_cons (pz_if (pbw (pbw_and (pb_val (pd_getT hr (pd_var 6) (pas_cons (pd_var 12) (pas_cons (pd_var 13) pas_nil)))) (pbw_and (pb_val (pd_getT hr (pd_var 6) (pas_cons (pd_var 13) (pas_cons (pd_var 14) pas_nil)))) (pbw_and1 (pb_not (pb_val (pd_getT hr (pd_var 6) (pas_cons (pd_var 12) (pas_cons (pd_var 14) pas_nil))))))))) (pzs_one (pz_ret pd_bl)) pzs_nil)
    (pzs_one (pz_if (pbw (pbw_or (pb_not (pb_val (pd_getT hr (pd_var 6) (pas_cons (pd_var 12) (pas_cons (pd_var 12) pas_nil))))) (pbw_or (pb_not (pb_val (pd_getT hr (pd_var 6) (pas_cons pd_int (pas_cons (pd_var 12) pas_nil))))) (pbw_or1 (pb_cmp (od_cmpM true (List.forall_mem_cons.mpr ⟨⟨⟨T.M_Rule___eq__.a, T.M_Rule___eq__.fd, _, T.M_Rule___eq__.M.at_, T.M_Rule___eq__.M.fn, H_Rule___eq__, T.M_Rule___eq__.F.binds fun _ _ _ _ _ _ us hl => match us, hl with | [_, _], _ => rfl, rfl⟩, T.ne_Rule, T.ob_Rule⟩, fun q hq => nomatch hq⟩) hr) (pd_ix (pd_var 5) (pd_var 12)) (pd_call H__law_rule hr rfl T._law_rule.g T._law_rule.k T._law_rule.b (takes_f rfl rfl rfl rfl) (pas_cons (pd_ix (pd_var 2) (pd_var 12)) pas_nil) (many_cons many_nil))))))) (pzs_one (pz_ret pd_bl)) pzs_nil)))))
    (pzs_one (pz_ret (pd_and (pd_cmp (od_eq hr) (pd_ix (pd_var 2) pd_int) (pd_op od_mulT (pd_tup (pas_cons pd_str pas_nil)) pd_int)) (pd_one (pd_nil hr (pm_l (pl_lcv rfl sc_law.nd (pf_range1 rfl T.n_range pd_int) (blkOk_by (N := ["_law_script", "_law_deck_here", "_law_every", "_law_left", "_law_mixed", "_law_made", "_law_told", "_law_k", "_law_turn", "_law_j", "_law_some", "_law_found", "_law_one", "_law_two", "_law_three"]) (sc := defScope s_law) (own := [("_law_k", 7)]) (by decide +kernel)) rfl (by decide) (fun _ _ _ _ _ => (pt_name sc_law.nd rfl (by first | exact Or.inl rfl | exact Or.inr rfl))) (fun _ _ _ _ _ => (ptsd_one (pb_cmp (od_ne hr) (pd_callT (cd_strM (List.forall_mem_cons.mpr ⟨⟨⟨T.M_Rule___str__.a, T.M_Rule___str__.fd, _, T.M_Rule___str__.M.at_, T.M_Rule___str__.M.fn, H_Rule___str__, T.M_Rule___str__.F.binds fun _ _ _ _ _ _ us hl => match us, hl with | [_], _ => rfl, rfl⟩⟩, fun q hq => nomatch hq⟩) hr) rfl T.n_str (by decide +kernel) (pas_cons (pd_ix (pd_var 5) (pd_var 7)) pas_nil)) (pd_ms PySem.F.plainAttrs_str PySem.F.slot_str_join PySem.F.type_str_join md_join pd_str (pas_cons (pd_ix (pd_var 2) (pd_var 7)) pas_nil))))) (fun _ _ _ _ _ => (pd_var 7)))))))))))))))))
end
abbrev s_NoRule_init : Stmt := inClass (top 2) 0
theorem all_mk {P : Program} {w : World} {K : PySem.W.Frag} {h : Heap} {mg : Str → Option Value} {fa : Addr} (X : K.In h) (G : h.Ns mainGlobals mg) (hfa : mg "law" = some (.ref fa))
    {f0 : Addr} {oc0 kV0 doc0 pm0 cd0 ct0 : Value} {od0 an0 : Option Addr} {sl0 : Array (Option Value)}
    {f1 : Addr} {oc1 kV1 doc1 pm1 cd1 ct1 : Value} {od1 an1 : Option Addr} {sl1 : Array (Option Value)}
    {f2 : Addr} {oc2 kV2 doc2 pm2 cd2 ct2 : Value} {od2 an2 : Option Addr} {sl2 : Array (Option Value)}
    {f3 : Addr} {oc3 kV3 doc3 pm3 cd3 ct3 : Value} {od3 an3 : Option Addr} {sl3 : Array (Option Value)}
    {f4 : Addr} {oc4 kV4 doc4 pm4 cd4 ct4 : Value} {od4 an4 : Option Addr} {sl4 : Array (Option Value)}
    {f5 : Addr} {oc5 kV5 doc5 pm5 cd5 ct5 : Value} {od5 an5 : Option Addr} {sl5 : Array (Option Value)}
    {f6 : Addr} {oc6 kV6 doc6 pm6 cd6 ct6 : Value} {od6 an6 : Option Addr} {sl6 : Array (Option Value)}
    {f7 : Addr} {oc7 kV7 doc7 pm7 cd7 ct7 : Value} {od7 an7 : Option Addr} {sl7 : Array (Option Value)}
    {C_Rule : Addr}
    {f8 : Addr} {oc8 kV8 doc8 pm8 cd8 ct8 : Value} {od8 an8 : Option Addr} {sl8 : Array (Option Value)}
    {f9 : Addr} {oc9 kV9 doc9 pm9 cd9 ct9 : Value} {od9 an9 : Option Addr} {sl9 : Array (Option Value)}
    {f10 : Addr} {oc10 kV10 doc10 pm10 cd10 ct10 : Value} {od10 an10 : Option Addr} {sl10 : Array (Option Value)}
    {f11 : Addr} {oc11 kV11 doc11 pm11 cd11 ct11 : Value} {od11 an11 : Option Addr} {sl11 : Array (Option Value)}
    {C_NoRule : Addr}
    {nm_NoRule q_NoRule : Str} {N_NoRule : Addr} {bs_NoRule bm_NoRule : List Value} {sn_NoRule : List Str} {sub_NoRule : List Value} {ab_NoRule : Bool} {col_NoRule : Option Bool} {dd_NoRule : Option Addr} {m0_NoRule m1_NoRule m2_NoRule m3_NoRule m5_NoRule : Option Value}
    {C_HeldError : Addr}
    {fx_NoRule : Addr} {ocx_NoRule kVx_NoRule docx_NoRule pmx_NoRule cdx_NoRule ctx_NoRule : Value} {odx_NoRule anx_NoRule : Option Addr} {slx_NoRule : Array (Option Value)}
    {t_FIELDS_0 : Tok}
    {t_FIELDS_1 : Tok}
    {t_FIELDS_2 : Tok}
    {t_FIELDS_3 : Tok}
    {a_FIELDS : Addr} {d_FIELDS : Option Addr} {n_FIELDS : Nat} {s_FIELDS : Array (Option Value)}
    {t_NONE : Tok}
    {p_WORDS : Addr} {es_WORDS : Array DictEntry} {n_WORDS : Nat}
    {t_WORDS_0_0 : Tok}
    {t_WORDS_0_1 : Tok}
    {t_WORDS_0_2 : Tok}
    {a_WORDS_0 : Addr} {d_WORDS_0 : Option Addr} {n_WORDS_0 : Nat} {s_WORDS_0 : Array (Option Value)}
    {t_WORDS_1_0 : Tok}
    {t_WORDS_1_1 : Tok}
    {a_WORDS_1 : Addr} {d_WORDS_1 : Option Addr} {n_WORDS_1 : Nat} {s_WORDS_1 : Array (Option Value)}
    {t_WORDS_2_0 : Tok}
    {t_WORDS_2_1 : Tok}
    {t_WORDS_2_2 : Tok}
    {a_WORDS_2 : Addr} {d_WORDS_2 : Option Addr} {n_WORDS_2 : Nat} {s_WORDS_2 : Array (Option Value)}
    {t_WORDS_3_0 : Tok}
    {t_WORDS_3_1 : Tok}
    {a_WORDS_3 : Addr} {d_WORDS_3 : Option Addr} {n_WORDS_3 : Nat} {s_WORDS_3 : Array (Option Value)}
    (n0 : PySem.W.nsIn K mainGlobals "_law_deck" = some (some (.ref f0)))
    (l0 : K.lookup f0 = some ⟨oc0, od0, .func (PySem.W.fnOf "_law_deck" "_law_deck" (defArgs s__law_deck) (defBody s__law_deck) (defScope s__law_deck) .none kV0 doc0 pm0 an0 cd0 ct0), sl0⟩)
    (cd_0 : PySem.W.codeIn K cd0 "_law_deck" = true)
    (k0 : PySem.W.keepIn K (.ref f0) = true)
    (n1 : PySem.W.nsIn K mainGlobals "_law_draw" = some (some (.ref f1)))
    (l1 : K.lookup f1 = some ⟨oc1, od1, .func (PySem.W.fnOf "_law_draw" "_law_draw" (defArgs s__law_draw) (defBody s__law_draw) (defScope s__law_draw) .none kV1 doc1 pm1 an1 cd1 ct1), sl1⟩)
    (cd_1 : PySem.W.codeIn K cd1 "_law_draw" = true)
    (k1 : PySem.W.keepIn K (.ref f1) = true)
    (n2 : PySem.W.nsIn K mainGlobals "_law_words" = some (some (.ref f2)))
    (l2 : K.lookup f2 = some ⟨oc2, od2, .func (PySem.W.fnOf "_law_words" "_law_words" (defArgs s__law_words) (defBody s__law_words) (defScope s__law_words) .none kV2 doc2 pm2 an2 cd2 ct2), sl2⟩)
    (cd_2 : PySem.W.codeIn K cd2 "_law_words" = true)
    (k2 : PySem.W.keepIn K (.ref f2) = true)
    (n3 : PySem.W.nsIn K mainGlobals "_law_all_rules" = some (some (.ref f3)))
    (l3 : K.lookup f3 = some ⟨oc3, od3, .func (PySem.W.fnOf "_law_all_rules" "_law_all_rules" (defArgs s__law_all_rules) (defBody s__law_all_rules) (defScope s__law_all_rules) .none kV3 doc3 pm3 an3 cd3 ct3), sl3⟩)
    (cd_3 : PySem.W.codeIn K cd3 "_law_all_rules" = true)
    (k3 : PySem.W.keepIn K (.ref f3) = true)
    (n4 : PySem.W.nsIn K mainGlobals "_law_rule" = some (some (.ref f4)))
    (l4 : K.lookup f4 = some ⟨oc4, od4, .func (PySem.W.fnOf "_law_rule" "_law_rule" (defArgs s__law_rule) (defBody s__law_rule) (defScope s__law_rule) .none kV4 doc4 pm4 an4 cd4 ct4), sl4⟩)
    (cd_4 : PySem.W.codeIn K cd4 "_law_rule" = true)
    (k4 : PySem.W.keepIn K (.ref f4) = true)
    (n5 : PySem.W.nsIn K mainGlobals "_law_due" = some (some (.ref f5)))
    (l5 : K.lookup f5 = some ⟨oc5, od5, .func (PySem.W.fnOf "_law_due" "_law_due" (defArgs s__law_due) (defBody s__law_due) (defScope s__law_due) .none kV5 doc5 pm5 an5 cd5 ct5), sl5⟩)
    (cd_5 : PySem.W.codeIn K cd5 "_law_due" = true)
    (k5 : PySem.W.keepIn K (.ref f5) = true)
    (n6 : PySem.W.nsIn K mainGlobals "law" = some (some (.ref f6)))
    (l6 : K.lookup f6 = some ⟨oc6, od6, .func (PySem.W.fnOf "law" "law" (defArgs s_law) (defBody s_law) (defScope s_law) .none kV6 doc6 pm6 an6 cd6 ct6), sl6⟩)
    (cd_6 : PySem.W.codeIn K cd6 "law" = true)
    (k6 : PySem.W.keepIn K (.ref f6) = true)
    (aC_Rule : PySem.W.nsIn K mainGlobals "Rule" = some (some (.ref C_Rule)))
    (n7 : PySem.W.findIn K (.ref C_Rule) "__init__" = some (some (.ref f7)))
    (l7 : K.lookup f7 = some ⟨oc7, od7, .func (PySem.W.fnOf "__init__" "Rule.__init__" (defArgs s_Rule___init__) (defBody s_Rule___init__) (defScope s_Rule___init__) .none kV7 doc7 pm7 an7 cd7 ct7), sl7⟩)
    (cd_7 : PySem.W.codeIn K cd7 "Rule.__init__" = true)
    (k7 : PySem.W.keepIn K (.ref f7) = true)
    (m1_Rule_ : PySem.W.makesIn K C_Rule = true)
    (m3_Rule_ : PySem.W.isFn K (.ref f7) = true)
    (m4_Rule_ : PySem.W.keepIn K (.ref C_Rule) = true)
    (pg_Rule : PySem.W.plainGet K C_Rule Str.empty = true)
    (hd_Rule : PySem.W.hasDictIn K C_Rule = true)
    (po_Rule : PySem.W.plainOver K C_Rule = true)
    (se_Rule : PySem.W.findIn K (.ref C_Rule) "__setattr__" = some (some (.builtin "object.__setattr__")))
    (n8 : PySem.W.findIn K (.ref C_Rule) "four_words" = some (some (.ref f8)))
    (l8 : K.lookup f8 = some ⟨oc8, od8, .func (PySem.W.fnOf "four_words" "Rule.four_words" (defArgs s_Rule_four_words) (defBody s_Rule_four_words) (defScope s_Rule_four_words) .none kV8 doc8 pm8 an8 cd8 ct8), sl8⟩)
    (cd_8 : PySem.W.codeIn K cd8 "Rule.four_words" = true)
    (k8 : PySem.W.keepIn K (.ref f8) = true)
    (mf8 : PySem.W.isFn K (.ref f8) = true)
    (n9 : PySem.W.findIn K (.ref C_Rule) "__eq__" = some (some (.ref f9)))
    (l9 : K.lookup f9 = some ⟨oc9, od9, .func (PySem.W.fnOf "__eq__" "Rule.__eq__" (defArgs s_Rule___eq__) (defBody s_Rule___eq__) (defScope s_Rule___eq__) .none kV9 doc9 pm9 an9 cd9 ct9), sl9⟩)
    (cd_9 : PySem.W.codeIn K cd9 "Rule.__eq__" = true)
    (k9 : PySem.W.keepIn K (.ref f9) = true)
    (mf9 : PySem.W.isFn K (.ref f9) = true)
    (n10 : PySem.W.findIn K (.ref C_Rule) "__str__" = some (some (.ref f10)))
    (l10 : K.lookup f10 = some ⟨oc10, od10, .func (PySem.W.fnOf "__str__" "Rule.__str__" (defArgs s_Rule___str__) (defBody s_Rule___str__) (defScope s_Rule___str__) .none kV10 doc10 pm10 an10 cd10 ct10), sl10⟩)
    (cd_10 : PySem.W.codeIn K cd10 "Rule.__str__" = true)
    (k10 : PySem.W.keepIn K (.ref f10) = true)
    (mf10 : PySem.W.isFn K (.ref f10) = true)
    (n11 : PySem.W.findIn K (.ref C_Rule) "lets_no_more" = some (some (.ref f11)))
    (l11 : K.lookup f11 = some ⟨oc11, od11, .func (PySem.W.fnOf "lets_no_more" "Rule.lets_no_more" (defArgs s_Rule_lets_no_more) (defBody s_Rule_lets_no_more) (defScope s_Rule_lets_no_more) .none kV11 doc11 pm11 an11 cd11 ct11), sl11⟩)
    (cd_11 : PySem.W.codeIn K cd11 "Rule.lets_no_more" = true)
    (k11 : PySem.W.keepIn K (.ref f11) = true)
    (mf11 : PySem.W.isFn K (.ref f11) = true)
    (bn : PySem.W.specialIn K (.builtin "object.__class__") "__get__" = some (some (.builtin "getset_descriptor.__get__")))
    (bt : PySem.W.takesIn K (.builtin "object.__class__") = some true)
    (aC_NoRule : PySem.W.nsIn K mainGlobals "NoRule" = some (some (.ref C_NoRule)))
    (xL_NoRule : K.lookup C_NoRule = some (excClassObj nm_NoRule q_NoRule C_NoRule N_NoRule bs_NoRule bm_NoRule true sn_NoRule sub_NoRule ab_NoRule col_NoRule dd_NoRule m0_NoRule m1_NoRule m2_NoRule m3_NoRule m5_NoRule "ValueError.__new__"))
    (bm_NoRule : PySem.HandSPX.refsVE bm_NoRule = true)
    (sa_NoRule : PySem.W.findIn K (.ref C_NoRule) "__setattr__" = some (some (.builtin "object.__setattr__")))
    (ga_NoRule : PySem.W.findIn K (.ref C_NoRule) "__getattribute__" = some (some (.builtin "BaseException.__getattribute__")))
    (gg_NoRule : PySem.W.findIn K (.ref C_NoRule) "__getattr__" = some none)
    (cl_NoRule : PySem.W.findIn K (.ref C_NoRule) "__class__" = some (some (.builtin "object.__class__")))
    (kC_NoRule : PySem.W.keepIn K (.ref C_NoRule) = true)
    (eC_NoRule : PySem.W.subIn K (.ref C_NoRule) (.type "BaseException") = some true)
    (tC_NoRule : PySem.W.typeIn K (.ref C_NoRule) = some (.type "type"))
    (hC_NoRule : PySem.W.hasDictIn K C_NoRule = true)
    (iC_NoRule : PySem.W.isClsIn K C_NoRule = true)
    (mC_NoRule : PySem.W.mroIn K C_NoRule (.type "object") = some true)
    (sC_NoRule : PySem.W.subIn K (.ref C_NoRule) (.ref C_NoRule) = some true)
    (nf_NoRule : PySem.W.findIn K (.ref C_NoRule) "field" = some none)
    (aC_HeldError : PySem.W.nsIn K mainGlobals "HeldError" = some (some (.ref C_HeldError)))
    (u1_HeldError : PySem.W.specialIn K (.ref C_HeldError) "__getattribute__" = some (some (.builtin "type.__getattribute__")))
    (u2_HeldError : PySem.W.readsIn K C_HeldError (.type "type") = true)
    (u3_HeldError : PySem.W.findCls K (.ref C_HeldError) (.type "type") "__init__" = some (.val (.builtin "ValueError.__init__")))
    (i1_NoRule : PySem.W.findIn K (.ref C_NoRule) "__init__" = some (some (.ref fx_NoRule)))
    (i2_NoRule : PySem.W.typeIn K (.ref fx_NoRule) = some (.type "function"))
    (lx_NoRule : K.lookup fx_NoRule = some ⟨ocx_NoRule, odx_NoRule, .func (PySem.W.fnOf "__init__" "NoRule.__init__" (defArgs s_NoRule_init) (defBody s_NoRule_init) (defScope s_NoRule_init) .none kVx_NoRule docx_NoRule pmx_NoRule anx_NoRule cdx_NoRule ctx_NoRule), slx_NoRule⟩)
    (cx_NoRule : PySem.W.codeIn K cdx_NoRule "NoRule.__init__" = true)
    (kx_NoRule : PySem.W.keepIn K (.ref fx_NoRule) = true)
    (no_Rule_stale : PySem.W.findIn K (.ref C_Rule) "stale" = some none)
    (no_Rule_alike : PySem.W.findIn K (.ref C_Rule) "alike" = some none)
    (no_Rule_order : PySem.W.findIn K (.ref C_Rule) "order" = some none)
    (no_Rule_cast : PySem.W.findIn K (.ref C_Rule) "cast" = some none)
    (iC_Rule : PySem.W.isClsIn K C_Rule = true)
    (tC_Rule : PySem.W.typeIn K (.ref C_Rule) = some (.type "type"))
    (sb_NoneType_Rule : PySem.W.subIn K (.type "NoneType") (.ref C_Rule) = some false)
    (sb_bool_Rule : PySem.W.subIn K (.type "bool") (.ref C_Rule) = some false)
    (sb_int_Rule : PySem.W.subIn K (.type "int") (.ref C_Rule) = some false)
    (sb_str_Rule : PySem.W.subIn K (.type "str") (.ref C_Rule) = some false)
    (sb_tuple_Rule : PySem.W.subIn K (.type "tuple") (.ref C_Rule) = some false)
    (sb_list_Rule : PySem.W.subIn K (.type "list") (.ref C_Rule) = some false)
    (sb_dict_Rule : PySem.W.subIn K (.type "dict") (.ref C_Rule) = some false)
    (neq_Rule : PySem.W.findIn K (.ref C_Rule) "__ne__" = some (some (.builtin "object.__ne__")))
    (sob_Rule : PySem.W.subIn K (.ref C_Rule) (.type "object") = some true)
    (b_all : PySem.W.nsIn K mainGlobals "all" = some none)
    (b_isinstance : PySem.W.nsIn K mainGlobals "isinstance" = some none)
    (b_len : PySem.W.nsIn K mainGlobals "len" = some none)
    (b_list : PySem.W.nsIn K mainGlobals "list" = some none)
    (b_range : PySem.W.nsIn K mainGlobals "range" = some none)
    (b_repr : PySem.W.nsIn K mainGlobals "repr" = some none)
    (b_str : PySem.W.nsIn K mainGlobals "str" = some none)
    (b_sum : PySem.W.nsIn K mainGlobals "sum" = some none)
    (b_zip : PySem.W.nsIn K mainGlobals "zip" = some none)
    (c_FIELDS : PySem.W.nsIn K mainGlobals "FIELDS" = some (some (.ref a_FIELDS)))
    (u_FIELDS : K.lookup a_FIELDS = some ⟨.type "tuple", d_FIELDS, .seq #[.str "cast" t_FIELDS_0, .str "order" t_FIELDS_1, .str "alike" t_FIELDS_2, .str "stale" t_FIELDS_3] n_FIELDS, s_FIELDS⟩)
    (c_NONE : PySem.W.nsIn K mainGlobals "NONE" = some (some (.str "none" t_NONE)))
    (d_WORDS : PySem.W.nsIn K mainGlobals "WORDS" = some (some (.ref p_WORDS)))
    (dl_WORDS : K.lookup p_WORDS = some ⟨.type "dict", none, .dict es_WORDS n_WORDS, #[]⟩)
    (dk_WORDS : PySem.W.KeysLit w.params es_WORDS.toList)
    (de_WORDS_0 : PySem.W.nsIn K p_WORDS "cast" = some (some (.ref a_WORDS_0)))
    (u_WORDS_0 : K.lookup a_WORDS_0 = some ⟨.type "tuple", d_WORDS_0, .seq #[.str "none" t_WORDS_0_0, .str "shown" t_WORDS_0_1, .str "any" t_WORDS_0_2] n_WORDS_0, s_WORDS_0⟩)
    (de_WORDS_1 : PySem.W.nsIn K p_WORDS "order" = some (some (.ref a_WORDS_1)))
    (u_WORDS_1 : K.lookup a_WORDS_1 = some ⟨.type "tuple", d_WORDS_1, .seq #[.str "none" t_WORDS_1_0, .str "number" t_WORDS_1_1] n_WORDS_1, s_WORDS_1⟩)
    (de_WORDS_2 : PySem.W.nsIn K p_WORDS "alike" = some (some (.ref a_WORDS_2)))
    (u_WORDS_2 : K.lookup a_WORDS_2 = some ⟨.type "tuple", d_WORDS_2, .seq #[.str "none" t_WORDS_2_0, .str "number" t_WORDS_2_1, .str "whence" t_WORDS_2_2] n_WORDS_2, s_WORDS_2⟩)
    (de_WORDS_3 : PySem.W.nsIn K p_WORDS "stale" = some (some (.ref a_WORDS_3)))
    (u_WORDS_3 : K.lookup a_WORDS_3 = some ⟨.type "tuple", d_WORDS_3, .seq #[.str "none" t_WORDS_3_0, .str "let" t_WORDS_3_1] n_WORDS_3, s_WORDS_3⟩)
    : ∃ fd : FuncData, (∀ (s : Shared) (u : Value), BindsTo s fd ⟨[u], []⟩ [("_law_script", u)]) ∧ ∀ base : Heap, K.In base → base.Ns mainGlobals mg → FnG P w K mg base 7 fa fd ["_law_script"] m_law := by
  have e := hfa.symm.trans (PySem.W.mg_of X G n6)
  have e0 : fa = f6 := by cases e; rfl
  clear e
  rw [e0]
  have T : ∃ T : Txt K w mg, T.law.a = f6 ∧ T.law.fd = PySem.W.fnOf "law" "law" (defArgs s_law) (defBody s_law) (defScope s_law) .none kV6 doc6 pm6 an6 cd6 ct6 := ⟨{
    _law_deck := tf_mk X G (fun _ _ _ _ _ _ us hl => match us, hl with | [_], _ => rfl) l0 n0 cd_0 k0,
    _law_draw := tf_mk X G (fun _ _ _ _ _ _ us hl => match us, hl with | [_, _], _ => rfl) l1 n1 cd_1 k1,
    _law_words := tf_mk X G (fun _ _ _ _ _ _ us hl => match us, hl with | [], _ => rfl) l2 n2 cd_2 k2,
    _law_all_rules := tf_mk X G (fun _ _ _ _ _ _ us hl => match us, hl with | [], _ => rfl) l3 n3 cd_3 k3,
    _law_rule := tf_mk X G (fun _ _ _ _ _ _ us hl => match us, hl with | [_], _ => rfl) l4 n4 cd_4 k4,
    _law_due := tf_mk X G (fun _ _ _ _ _ _ us hl => match us, hl with | [_, _], _ => rfl) l5 n5 cd_5 k5,
    law := tf_mk X G (fun _ _ _ _ _ _ us hl => match us, hl with | [_], _ => rfl) l6 n6 cd_6 k6,
    Rule := ct_mk X G l7 aC_Rule cd_7 k7 m1_Rule_ n7 m3_Rule_ m4_Rule_,
    M_Rule_four_words := mt_mk l8 aC_Rule cd_8 k8 n8 mf8 pg_Rule hd_Rule po_Rule se_Rule,
    M_Rule___eq__ := mt_mk l9 aC_Rule cd_9 k9 n9 mf9 pg_Rule hd_Rule po_Rule se_Rule,
    M_Rule___str__ := mt_mk l10 aC_Rule cd_10 k10 n10 mf10 pg_Rule hd_Rule po_Rule se_Rule,
    M_Rule_lets_no_more := mt_mk l11 aC_Rule cd_11 k11 n11 mf11 pg_Rule hd_Rule po_Rule se_Rule,
    x_NoRule := xt_mk X G (y := "HeldError") aC_NoRule (oexC_mk xL_NoRule bm_NoRule sa_NoRule eC_NoRule tC_NoRule kC_NoRule) nf_NoRule i1_NoRule i2_NoRule (fun_mk lx_NoRule cx_NoRule kx_NoRule) ⟨rfl, rfl, rfl, by decide +kernel, rfl, by decide +kernel, by decide +kernel⟩ (fun _ _ _ _ _ _ us hl => match us, hl with | [_, _], _ => rfl) aC_HeldError ⟨u1_HeldError, u2_HeldError, u3_HeldError⟩ (by decide) (by decide) (by decide) rfl rfl rfl (fun _ => ⟨_, rfl⟩) rfl,
    g_Rule := glo_mk X G aC_Rule,
    clss := (List.forall_mem_cons.mpr ⟨clsT_mk aC_Rule pg_Rule hd_Rule po_Rule se_Rule (List.forall_mem_cons.mpr ⟨no_Rule_cast, (List.forall_mem_cons.mpr ⟨no_Rule_order, (List.forall_mem_cons.mpr ⟨no_Rule_alike, (List.forall_mem_cons.mpr ⟨no_Rule_stale, (fun q hq => nomatch hq)⟩)⟩)⟩)⟩), (fun q hq => nomatch hq)⟩),
    isos := (List.forall_mem_cons.mpr ⟨HA.is_mk aC_Rule iC_Rule tC_Rule sb_NoneType_Rule sb_bool_Rule sb_int_Rule sb_str_Rule sb_tuple_Rule sb_list_Rule sb_dict_Rule, (fun q hq => nomatch hq)⟩),
    ne_Rule := HA.ne_mk aC_Rule neq_Rule,
    ob_Rule := HA.ob_mk aC_Rule sob_Rule,
    n_all := PySem.W.mg_none_of X G b_all,
    n_isinstance := PySem.W.mg_none_of X G b_isinstance,
    n_len := PySem.W.mg_none_of X G b_len,
    n_list := PySem.W.mg_none_of X G b_list,
    n_range := PySem.W.mg_none_of X G b_range,
    n_repr := PySem.W.mg_none_of X G b_repr,
    n_str := PySem.W.mg_none_of X G b_str,
    n_sum := PySem.W.mg_none_of X G b_sum,
    n_zip := PySem.W.mg_none_of X G b_zip,
    c_FIELDS := ⟨_, PySem.W.mg_of X G c_FIELDS, (cr_tup u_FIELDS rfl rfl (Nat.le_of_ble_eq_true rfl) (.cons cr_str (.cons cr_str (.cons cr_str (.cons cr_str CRs.nil)))))⟩,
    c_NONE := ⟨_, PySem.W.mg_of X G c_NONE, cr_str⟩,
    c_WORDS := ⟨_, _, _, PySem.W.mg_of X G d_WORDS, dl_WORDS, dk_WORDS, (List.forall_mem_cons.mpr ⟨⟨_, de_WORDS_0, (cr_tup u_WORDS_0 rfl rfl (Nat.le_of_ble_eq_true rfl) (.cons cr_str (.cons cr_str (.cons cr_str CRs.nil))))⟩, (List.forall_mem_cons.mpr ⟨⟨_, de_WORDS_1, (cr_tup u_WORDS_1 rfl rfl (Nat.le_of_ble_eq_true rfl) (.cons cr_str (.cons cr_str CRs.nil)))⟩, (List.forall_mem_cons.mpr ⟨⟨_, de_WORDS_2, (cr_tup u_WORDS_2 rfl rfl (Nat.le_of_ble_eq_true rfl) (.cons cr_str (.cons cr_str (.cons cr_str CRs.nil))))⟩, (List.forall_mem_cons.mpr ⟨⟨_, de_WORDS_3, (cr_tup u_WORDS_3 rfl rfl (Nat.le_of_ble_eq_true rfl) (.cons cr_str (.cons cr_str CRs.nil)))⟩, (fun q hq => nomatch hq)⟩)⟩)⟩)⟩)⟩ }, rfl, rfl⟩
  obtain ⟨T, e1, e2⟩ := T
  refine ⟨PySem.W.fnOf "law" "law" (defArgs s_law) (defBody s_law) (defScope s_law) .none kV6 doc6 pm6 an6 cd6 ct6, fun s u => .of_eq rfl, fun base _ _ => ?_⟩
  have := ok_law (P := P) (base := base) T
  rw [e1, e2] at this
  exact this
end HL
namespace HF
open PySem PySem.Spec PyProof.Rows L2 HA
theorem walk_GE {l : PySem.W.OpenLaw} {k : Nat} {q : Program} {loose : List Str} {XP : (Str → Option Value) → Heap → Prop} {YP : World → Heap → Prop} {d : DefRec} {x : Str} {m : List D → AH → Res D}
    (hn : l.most = some 63) (hdf : d.params.defaults = []) (hr : Rm k callerA)
    (F : ∀ (w : World) (mg : Str → Option Value) (fa : Addr) (h : Heap), YP w h → h.Ns mainGlobals mg → mg d.name = some (.ref fa) →
      ∃ (K : PySem.W.Frag) (fd : FuncData), K.In h ∧ (∀ (s : Shared) (u : Value), BindsTo s fd ⟨[u], []⟩ [(x, u)]) ∧ ∀ base : Heap, K.In base → base.Ns mainGlobals mg → FnG l.prog w K mg base k fa fd [x] m)
    (hm : ∀ ns : List Int, ns.length ≤ 63 → ∃ ah', m [.ref 0] (ah0 ns) = .ok (.bl true) ah') : PySem.W.WalkO q loose XP YP l.row.toRowW d [] (fun f vs => PySem.call f vs) := by
  refine Att.attach_call hn hdf fun w s₀ s₁ mg mb fa o pm cd doc a vs ns G Y ho hd hcd hmg hobj hints hlen hg => ?_
  obtain ⟨K, fd, KX, hb, hF⟩ := F w mg fa _ Y G.T.g hmg
  exact law_G KX G.T.g G.T.b G.T.builtins G.T.nolimit hg hobj hints (Nat.le_trans hlen (by decide)) hr hF hb (hm ns hlen)
abbrev Al : Type := Bool × List He.FnW × List (List (Int × Option Str))
def keysOf (K : PySem.W.Frag) (p : Addr) : List (Int × Option Str) := match K.lookup p with
  | some ⟨_, _, .dict es _, _⟩ => es.toList.map fun e => (e.hash, match e.key with | .str x _ => some x | _ => none)
  | _ => []
def obsF (ts : PySem.W.Frag → List Bool) (fn : List He.DefD) (ds : PySem.W.Frag → List Addr) (K : PySem.W.Frag) : Al := ((ts K).all id && fn.all fun d => d.ok K, fn.map fun d => He.fnW K d.at_, (ds K).map (keysOf K))
def valF (fn : List He.DefD) (kss : List (List Str)) (w : World) : Al := (true, fn.map He.DefD.val, kss.map fun ks => ks.map fun x => (PyData.keyHash w.params x, some x))
def SaysF (ts : PySem.W.Frag → List Bool) (fn : List He.DefD) (ds : PySem.W.Frag → List Addr) (kss : List (List Str)) (w : World) (K : PySem.W.Frag) : Prop := obsF ts fn ds K = valF fn kss w
def obsG (n : Nat) (ts : PySem.W.Frag → List Bool) (fn : List He.DefD) (ds : PySem.W.Frag → List Addr) (g : Addr → Option Obj) : Al := obsF ts fn ds (He.frG g (List.range n))
def hookF (n : Nat) (ts : PySem.W.Frag → List Bool) (fn : List He.DefD) (ds : PySem.W.Frag → List Addr) (kss : List (List Str)) : PySem.W.Hook where
  α := Al
  obs := fun s => obsG n ts fn ds s.heap.get?
  val := valF fn kss
  says := fun w h => ∃ K : PySem.W.Frag, K.In h ∧ SaysF ts fn ds kss w K
  of := fun _ _ e => ⟨_, He.frG_in, e⟩
  keeps := fun _ _ _ ⟨K, hK, c⟩ k => ⟨K, PySem.W.Frag.In.keeps hK k, c⟩
theorem obsG_eq {n : Nat} {ts : PySem.W.Frag → List Bool} {fn : List He.DefD} {ds : PySem.W.Frag → List Addr} {kss : List (List Str)} {g : Addr → Option Obj} {s : Shared} (h : ∀ a, g a = s.heap.get? a) : obsG n ts fn ds g = (hookF n ts fn ds kss).obs s := by
  have e : g = s.heap.get? := funext h
  rw [e] <;> rfl
section
variable {ts : PySem.W.Frag → List Bool} {fn : List He.DefD} {ds : PySem.W.Frag → List Addr} {kss : List (List Str)} {w : World} {K : PySem.W.Frag}
theorem SaysF.fact (c : SaysF ts fn ds kss w K) (i : Nat) {b : Bool} (h : (ts K)[i]? = some b := by rfl) : b = true := by
  have c1 := (He.ba (show ((ts K).all id && fn.all fun d => d.ok K) = true from congrArg (fun z : Al => z.1) c)).1
  exact List.all_eq_true.mp c1 b (List.mem_of_getElem? h)
theorem SaysF.fnOk (c : SaysF ts fn ds kss w K) (i : Nat) {d : He.DefD} (h : fn[i]? = some d := by rfl) : He.fnW K d.at_ = d.val ∧ d.ok K = true := by
  have c2 := (He.ba (show ((ts K).all id && fn.all fun d => d.ok K) = true from congrArg (fun z : Al => z.1) c)).2
  have e : fn.map (fun d => He.fnW K d.at_) = fn.map He.DefD.val := congrArg (fun z : Al => z.2.1) c
  have e2 : (fn.map fun d => He.fnW K d.at_)[i]? = (fn.map He.DefD.val)[i]? := by rw [e]
  rw [List.getElem?_map, List.getElem?_map, h] at e2
  exact ⟨Option.some.inj e2, List.all_eq_true.mp c2 d (List.mem_of_getElem? h)⟩
theorem SaysF.keys (c : SaysF ts fn ds kss w K) (i : Nat) {p : Addr} {ks : List Str} (h : (ds K)[i]? = some p := by rfl) (g : kss[i]? = some ks := by rfl) : keysOf K p = ks.map fun x => (PyData.keyHash w.params x, some x) := by
  have e : (ds K).map (keysOf K) = kss.map fun ks => ks.map fun x => (PyData.keyHash w.params x, some x) := congrArg (fun z : Al => z.2.2) c
  have e2 : ((ds K).map (keysOf K))[i]? = (kss.map fun ks => ks.map fun x => (PyData.keyHash w.params x, some x))[i]? := by rw [e]
  rw [List.getElem?_map, List.getElem?_map, h, g] at e2
  exact Option.some.inj e2
end
theorem fn_ex {K : PySem.W.Frag} {d : He.DefD} (h : He.fnW K d.at_ = d.val ∧ d.ok K = true) (hd : d.dfl = [] := by rfl) : ∃ (oc kV doc pm cd ct : Value) (od an : Option Addr) (sl : Array (Option Value)), K.lookup (He.fAd K d.at_) = some ⟨oc, od, .func (PySem.W.fnOf d.name d.qual d.params d.body d.scope .none kV doc pm an cd ct), sl⟩ ∧ PySem.W.codeIn K cd d.qual = true ∧ PySem.W.keepIn K (.ref (He.fAd K d.at_)) = true ∧ KwdV K kV (d.kws K) := by
  obtain ⟨e, c⟩ := h
  obtain ⟨kp, c2⟩ := He.ba c
  unfold He.fnW at e
  cases q : K.lookup (He.fAd K d.at_) with
  | none =>
    rw [q] at c2
    cases c2
  | some o =>
    obtain ⟨oc, od, dt, osl⟩ := o
    rw [q] at c2 e
    cases dt with
    | func fd =>
      obtain ⟨n1, n2, n3, n4, n5, n6, n7, n8, n9, n10, n11, n12, n13, n14, n15⟩ := fd
      have e2 : (some (n1, n2, n3, n4, n5, n6, n7, n15) : He.FnW) = some (d.name, d.qual, d.params, .stmts d.body, d.scope, mainGlobals, [], builtinsNs) := e
      simp only [Option.some.injEq, Prod.mk.injEq] at e2
      obtain ⟨h1, h2, h3, h4, h5, h6, h7, h8⟩ := e2
      subst h1 h2 h3 h4 h5 h6 h7 h8
      have c3 : (PySem.W.codeIn K n13 d.qual && (He.dflB K n8 (d.dvs K) && He.kwdB K n9 (d.kws K))) = true := c2
      obtain ⟨k1, k2⟩ := He.ba c3
      obtain ⟨k3, k4⟩ := He.ba k2
      have z : d.dvs K = [] := by simp [He.DefD.dvs, hd]
      rw [z] at k3
      have e8 : n8 = .none := by
        cases n8 with
        | none => rfl
        | _ => cases k3
      subst e8
      exact ⟨oc, n9, n10, n11, n13, n14, od, n12, osl, rfl, k1, kp, He.kwdB_ok k4⟩
    | _ => cases c2
def kwA (K : PySem.W.Frag) (f : Addr) (x : Str) : Addr := match K.lookup f with
  | some ⟨_, _, .func fd, _⟩ => (match fd.kwdefaults with
    | .ref D => (match PySem.W.nsIn K D x with
      | some (some (.ref a)) => a
      | _ => 0)
    | _ => 0)
  | _ => 0
section
variable {K : PySem.W.Frag}
theorem glo_n {x : Str} (c : (He.Fa.glo x).ok K = true) : PySem.W.nsIn K mainGlobals x = some (some (.ref (He.ga K x))) := He.eqO_ok c
theorem free_n {x : Str} (c : (He.Fa.free x).ok K = true) : PySem.W.nsIn K mainGlobals x = some none := He.eqO_ok c
theorem str_n {x z : Str} (c : (He.Fa.str x z).ok K = true) : ∃ t, PySem.W.nsIn K mainGlobals x = some (some (.str z t)) := by
  have c2 : (match PySem.W.nsIn K mainGlobals x with
    | some (some (.str y _)) => decide (y = z)
    | _ => false) = true := c
  cases e : PySem.W.nsIn K mainGlobals x with
  | none => rw [e] at c2; cases c2
  | some o =>
    rw [e] at c2
    cases o with
    | none => cases c2
    | some v =>
      cases v with
      | str j t =>
        have ej : j = z := of_decide_eq_true c2
        exact ⟨t, by rw [ej]⟩
      | _ => cases c2
def tupT (K : PySem.W.Frag) (a : Addr) (vs : List V) : Bool := match K.lookup a with
  | some ⟨.type c, _, .seq its _, _⟩ => decide (c = "tuple") && He.relAll vs its.toList
  | _ => false
theorem tup_ex {a : Addr} {vs : List V} (h : tupT K a vs = true) : ∃ (us : List Value) (d : Option Addr) (n : Nat) (s : Array (Option Value)), K.lookup a = some ⟨.type "tuple", d, .seq us.toArray n, s⟩ ∧ Vals vs us := by
  unfold tupT at h
  cases q : K.lookup a with
  | none => rw [q] at h; cases h
  | some o =>
    obtain ⟨oc, od, dt, osl⟩ := o
    rw [q] at h
    cases oc with
    | type c =>
      cases dt with
      | seq its n =>
        obtain ⟨h1, h2⟩ := He.ba (show (decide (c = "tuple") && He.relAll vs its.toList) = true from h)
        rw [of_decide_eq_true h1]
        exact ⟨its.toList, od, n, osl, by simp, He.relAll_ok h2⟩
      | _ => cases h
    | _ => cases dt <;> cases h
theorem vals_str {x : Str} {vs : List V} {us : List Value} (h : Vals (.str x :: vs) us) : ∃ t us', us = .str x t :: us' ∧ Vals vs us' := by
  cases h with
  | cons r h => obtain ⟨t, rfl⟩ := r; exact ⟨t, _, rfl, h⟩
theorem vals_nil {us : List Value} (h : Vals [] us) : us = [] := by cases h; rfl
def elA (K : PySem.W.Frag) (a : Addr) (i : Nat) : Addr := match K.lookup a with
  | some ⟨_, _, .seq its _, _⟩ => (match its.toList[i]? with
    | some (.ref b) => b
    | _ => 0)
  | _ => 0
def dkA (K : PySem.W.Frag) (p : Addr) (x : Str) : Addr := match PySem.W.nsIn K p x with
  | some (some (.ref a)) => a
  | _ => 0
def dicT (K : PySem.W.Frag) (p : Addr) : Bool := match K.lookup p with
  | some ⟨.type c, none, .dict _ _, sl⟩ => decide (c = "dict") && sl.isEmpty
  | _ => false
theorem keys_lit {P : Params} : ∀ {l : List DictEntry} {ks : List Str}, l.map (fun e => (e.hash, match e.key with | .str x _ => some x | _ => none)) = ks.map (fun x => (PyData.keyHash P x, some x)) → PySem.W.KeysLit P l
  | [], _, _ => trivial
  | e :: l, [], g => by cases g
  | e :: l, x :: ks, g => by
    simp only [List.map_cons, List.cons.injEq, Prod.mk.injEq] at g
    obtain ⟨⟨gh, gk⟩, gr⟩ := g
    refine ⟨?_, keys_lit gr⟩
    cases ek : e.key with
    | str y t =>
      rw [ek] at gk
      have : y = x := Option.some.inj gk
      exact ⟨x, t, by rw [this], gh⟩
    | _ => rw [ek] at gk; cases gk
theorem dic_ex {p : Addr} {P : Params} {ks : List Str} (h : dicT K p = true) (g : keysOf K p = ks.map fun x => (PyData.keyHash P x, some x)) : ∃ (es : Array DictEntry) (n : Nat), K.lookup p = some ⟨.type "dict", none, .dict es n, #[]⟩ ∧ PySem.W.KeysLit P es.toList := by
  unfold dicT at h
  unfold keysOf at g
  cases q : K.lookup p with
  | none => rw [q] at h; cases h
  | some o =>
    obtain ⟨oc, od, dt, osl⟩ := o
    rw [q] at h g
    cases oc with
    | type c =>
      cases od with
      | none =>
        cases dt with
        | dict es n =>
          obtain ⟨h1, h2⟩ := He.ba (show (decide (c = "dict") && osl.isEmpty) = true from h)
          have e2 : osl = #[] := by simpa using h2
          rw [of_decide_eq_true h1, e2]
          refine ⟨es, n, rfl, ?_⟩
          have g : es.toList.map (fun e => (e.hash, match e.key with | .str x _ => some x | _ => none)) = ks.map fun x => (PyData.keyHash P x, some x) := g
          exact keys_lit g
        | _ => cases h
      | some z => cases dt <;> cases h
    | _ => cases od <;> cases dt <;> cases h
def dkT (K : PySem.W.Frag) (p : Addr) (x : Str) : Bool := He.eqO (PySem.W.nsIn K p x) (some (some (.ref (dkA K p x))))
theorem dk_n {p : Addr} {x : Str} (h : dkT K p x = true) : PySem.W.nsIn K p x = some (some (.ref (dkA K p x))) := He.eqO_ok h
def dgT (K : PySem.W.Frag) (p : Addr) (x y : Str) : Bool := He.eqO (PySem.W.nsIn K p x) (some (some (.ref (He.ga K y))))
def vT (a : Option (Option Value)) (v : Option Value) : Bool := He.eqO a (some v)
theorem v_ok {a : Option (Option Value)} {v : Option Value} (h : vT a v = true) : a = some v := He.eqO_ok h
def bT (a : Option Bool) (b : Bool) : Bool := decide (a = some b)
theorem b_ok {a : Option Bool} {b : Bool} (h : bT a b = true) : a = some b := of_decide_eq_true h
def tyT (a : Option Value) (v : Value) : Bool := decide (a = some v)
theorem ty_ok {a : Option Value} {v : Value} (h : tyT a v = true) : a = some v := of_decide_eq_true h
def fcT (a : Option PySem.W.CFound) (x : String) : Bool := match a with
  | some (.val (.builtin y)) => decide (y = x)
  | _ => false
theorem fc_ok {a : Option PySem.W.CFound} {x : String} (h : fcT a x = true) : a = some (.val (.builtin x)) := by
  unfold fcT at h
  split at h
  · rw [of_decide_eq_true h]
  · cases h
def excT (K : PySem.W.Frag) (C : Addr) (x : String) : Bool := match K.lookup C with
  | some ⟨.type c, _, .cls cd, sl⟩ => decide (c = "type") && (cd.hasDict && (!cd.hasDel && ((match cd.mro with
    | v :: bm => decide (v = .ref C) && PySem.HandSPX.refsVE bm
    | [] => false) && (match sl.toList with
    | [_, _, _, _, some (.builtin y), _] => decide (y = x)
    | _ => false))))
  | _ => false
theorem exc_ex {C : Addr} {x : String} (h : excT K C x = true) : ∃ (nm q : Str) (N : Addr) (bs bm : List Value) (sn : List Str) (sub : List Value) (ab : Bool) (col : Option Bool) (dd : Option Addr) (m0 m1 m2 m3 m5 : Option Value), K.lookup C = some (excClassObj nm q C N bs bm true sn sub ab col dd m0 m1 m2 m3 m5 x) ∧ PySem.HandSPX.refsVE bm = true := by
  unfold excT at h
  cases q : K.lookup C with
  | none => rw [q] at h; cases h
  | some o =>
    obtain ⟨oc, od, dt, osl⟩ := o
    rw [q] at h
    cases oc with
    | type c =>
      cases dt with
      | cls cd =>
        obtain ⟨h1, h2⟩ := He.ba h
        obtain ⟨h3, h4⟩ := He.ba h2
        obtain ⟨h5, h6⟩ := He.ba h4
        obtain ⟨h7, h8⟩ := He.ba h6
        obtain ⟨n1, n2, n3, n4, n5, n6, n7, n8, n9, n10, n11⟩ := cd
        dsimp only at h3 h5 h7 h8
        cases n3 with
        | nil => cases h7
        | cons v bm =>
          obtain ⟨h9, h10⟩ := He.ba h7
          have hv := of_decide_eq_true h9
          obtain ⟨l⟩ := osl
          dsimp only at h8
          split at h8
          · have hy := of_decide_eq_true h8
            have h5' : n11 = false := by simpa using h5
            subst h3 h5'
            rw [of_decide_eq_true h1, hv, hy]
            exact ⟨_, _, _, _, bm, _, _, _, _, _, _, _, _, _, _, rfl, h10⟩
          · cases h8
      | _ => cases h
    | _ => cases dt <;> cases h
end
end HF
namespace HF
open PySem PySem.Spec PySem.W PyProof.Rows L2 HA HandSHeadRun
theorem map_pair {α β γ δ : Type} {o : Option α} {f : α → β} {g : α → γ} {h : α → δ} {a : β} {b : γ} {c : δ} (e1 : o.map f = some a) (e2 : o.map g = some b) (j : ∀ s, f s = a → g s = b → h s = c) : o.map h = some c := by
  cases o with
  | none => cases e1
  | some s =>
    have x1 : f s = a := Option.some.inj e1
    have x2 : g s = b := Option.some.inj e2
    exact congrArg some (j s x1 x2)
theorem obs_join {n : Nat} {ts : PySem.W.Frag → List Bool} {fn : List He.DefD} {ds : PySem.W.Frag → List Addr} {kss : List (List Str)} {g : Addr → Option Obj} {w : World} (i j : Nat)
    (a : obsG n (fun K => (ts K).take i) (fn.take j) ds g = valF (fn.take j) kss w) (b : obsG n (fun K => (ts K).drop i) (fn.drop j) (fun _ => []) g = valF (fn.drop j) [] w) : obsG n ts fn ds g = valF fn kss w := by
  unfold obsG obsF valF at *
  generalize He.frG g (List.range n) = K at *
  simp only [Prod.mk.injEq, Bool.and_eq_true] at a b ⊢
  obtain ⟨⟨a1, a2⟩, a3, a4⟩ := a
  obtain ⟨⟨b1, b2⟩, b3, b4⟩ := b
  refine ⟨⟨?_, ?_⟩, ?_, a4⟩
  · rw [← List.take_append_drop i (ts K), List.all_append, a1, b1]; rfl
  · rw [← List.take_append_drop j fn, List.all_append, a2, b2]; rfl
  · rw [← List.take_append_drop j fn, List.map_append, List.map_append, a3, b3]
def RunB (r : OpenRow) (n : Nat) (ts : PySem.W.Frag → List Bool) (fn : List He.DefD) (i j M : Nat) (w : World) : Prop :=
  ∀ os : OsState, (endF (stepQ (denQ tabQ) r.prog w) M r.prog w os).map (fun s => obsG n (fun K => (ts K).drop i) (fn.drop j) (fun _ => []) (getT s)) = some (valF (fn.drop j) [] w)
theorem run_join {r : OpenRow} {q : Program} {n M : Nat} {loose : List Str} {w : World} {ts : PySem.W.Frag → List Bool} {fn : List He.DefD} {ds : PySem.W.Frag → List Addr} {kss : List (List Str)} (i j : Nat)
    (a : RunEq r q (hookF n (fun K => (ts K).take i) (fn.take j) ds kss) (fun s => obsG n (fun K => (ts K).take i) (fn.take j) ds (getT s)) M loose w)
    (b : RunB r n ts fn i j M w) : RunEq r q (hookF n ts fn ds kss) (fun s => obsG n ts fn ds (getT s)) M loose w := fun os => by
  refine map_pair (a os) (b os) fun s e1 e2 => ?_
  obtain ⟨x1, x2⟩ := Prod.mk.inj e1
  obtain ⟨x2, x3⟩ := Prod.mk.inj x2
  exact Prod.ext x1 (Prod.ext x2 (obs_join i j x3 e2))
end HF
namespace HF
open PySem PySem.Spec PyProof.Rows L2 HA
def exiT (K : PySem.W.Frag) (C : Addr) : Bool := match K.lookup C with
  | some ⟨.type c, _, .cls cd, sl⟩ => decide (c = "type") && (cd.hasDict && (!cd.hasDel && (decide (cd.mro = .ref C :: HA.ieT) && (match sl.toList with
    | [_, _, _, _, some (.builtin y), _] => decide (y = "IndexError.__new__")
    | _ => false))))
  | _ => false
end HF
namespace HL
open PySem PySem.Spec PyProof.Rows L2 HA
def hts (K : PySem.W.Frag) : List Bool := ([(He.Fa.glo "_law_deck").ok K, (He.Fa.glo "_law_draw").ok K, (He.Fa.glo "_law_words").ok K, (He.Fa.glo "_law_all_rules").ok K, (He.Fa.glo "_law_rule").ok K, (He.Fa.glo "_law_due").ok K, (He.Fa.glo "law").ok K, (He.Fa.glo "Rule").ok K, HF.vT (PySem.W.findIn K (.ref (He.ga K "Rule")) "__init__") (some (.ref (He.fAd K ("Rule", some "__init__")))), PySem.W.makesIn K (He.ga K "Rule"), PySem.W.isFn K (.ref (He.fAd K ("Rule", some "__init__"))), PySem.W.keepIn K (.ref (He.ga K "Rule")), PySem.W.plainGet K (He.ga K "Rule") Str.empty, PySem.W.hasDictIn K (He.ga K "Rule"), PySem.W.plainOver K (He.ga K "Rule"), HF.vT (PySem.W.findIn K (.ref (He.ga K "Rule")) "__setattr__") (some (.builtin "object.__setattr__")), HF.vT (PySem.W.findIn K (.ref (He.ga K "Rule")) "four_words") (some (.ref (He.fAd K ("Rule", some "four_words")))), PySem.W.isFn K (.ref (He.fAd K ("Rule", some "four_words"))), HF.vT (PySem.W.findIn K (.ref (He.ga K "Rule")) "__eq__") (some (.ref (He.fAd K ("Rule", some "__eq__")))), PySem.W.isFn K (.ref (He.fAd K ("Rule", some "__eq__"))), HF.vT (PySem.W.findIn K (.ref (He.ga K "Rule")) "__str__") (some (.ref (He.fAd K ("Rule", some "__str__")))), PySem.W.isFn K (.ref (He.fAd K ("Rule", some "__str__"))), HF.vT (PySem.W.findIn K (.ref (He.ga K "Rule")) "lets_no_more") (some (.ref (He.fAd K ("Rule", some "lets_no_more")))), PySem.W.isFn K (.ref (He.fAd K ("Rule", some "lets_no_more"))), HF.vT (PySem.W.specialIn K (.builtin "object.__class__") "__get__") (some (.builtin "getset_descriptor.__get__"))] : List Bool) ++ (([HF.bT (PySem.W.takesIn K (.builtin "object.__class__")) true, (He.Fa.glo "NoRule").ok K, HF.excT K (He.ga K "NoRule") "ValueError.__new__", HF.vT (PySem.W.findIn K (.ref (He.ga K "NoRule")) "__setattr__") (some (.builtin "object.__setattr__")), HF.vT (PySem.W.findIn K (.ref (He.ga K "NoRule")) "__getattribute__") (some (.builtin "BaseException.__getattribute__")), HF.vT (PySem.W.findIn K (.ref (He.ga K "NoRule")) "__getattr__") none, HF.vT (PySem.W.findIn K (.ref (He.ga K "NoRule")) "__class__") (some (.builtin "object.__class__")), PySem.W.keepIn K (.ref (He.ga K "NoRule")), HF.bT (PySem.W.subIn K (.ref (He.ga K "NoRule")) (.type "BaseException")) true, HF.tyT (PySem.W.typeIn K (.ref (He.ga K "NoRule"))) (.type "type"), PySem.W.hasDictIn K (He.ga K "NoRule"), PySem.W.isClsIn K (He.ga K "NoRule"), HF.bT (PySem.W.mroIn K (He.ga K "NoRule") (.type "object")) true, HF.bT (PySem.W.subIn K (.ref (He.ga K "NoRule")) (.ref (He.ga K "NoRule"))) true, HF.vT (PySem.W.findIn K (.ref (He.ga K "NoRule")) "field") none, (He.Fa.glo "HeldError").ok K, HF.vT (PySem.W.specialIn K (.ref (He.ga K "HeldError")) "__getattribute__") (some (.builtin "type.__getattribute__")), PySem.W.readsIn K (He.ga K "HeldError") (.type "type"), HF.fcT (PySem.W.findCls K (.ref (He.ga K "HeldError")) (.type "type") "__init__") "ValueError.__init__", HF.vT (PySem.W.findIn K (.ref (He.ga K "NoRule")) "__init__") (some (.ref (He.fAd K ("NoRule", some "__init__")))), HF.tyT (PySem.W.typeIn K (.ref (He.fAd K ("NoRule", some "__init__")))) (.type "function"), HF.vT (PySem.W.findIn K (.ref (He.ga K "Rule")) "stale") none, HF.vT (PySem.W.findIn K (.ref (He.ga K "Rule")) "alike") none, HF.vT (PySem.W.findIn K (.ref (He.ga K "Rule")) "order") none, HF.vT (PySem.W.findIn K (.ref (He.ga K "Rule")) "cast") none] : List Bool) ++ (([PySem.W.isClsIn K (He.ga K "Rule"), HF.tyT (PySem.W.typeIn K (.ref (He.ga K "Rule"))) (.type "type"), HF.bT (PySem.W.subIn K (.type "NoneType") (.ref (He.ga K "Rule"))) false, HF.bT (PySem.W.subIn K (.type "bool") (.ref (He.ga K "Rule"))) false, HF.bT (PySem.W.subIn K (.type "int") (.ref (He.ga K "Rule"))) false, HF.bT (PySem.W.subIn K (.type "str") (.ref (He.ga K "Rule"))) false, HF.bT (PySem.W.subIn K (.type "tuple") (.ref (He.ga K "Rule"))) false, HF.bT (PySem.W.subIn K (.type "list") (.ref (He.ga K "Rule"))) false, HF.bT (PySem.W.subIn K (.type "dict") (.ref (He.ga K "Rule"))) false, HF.vT (PySem.W.findIn K (.ref (He.ga K "Rule")) "__ne__") (some (.builtin "object.__ne__")), HF.bT (PySem.W.subIn K (.ref (He.ga K "Rule")) (.type "object")) true, (He.Fa.free "all").ok K, (He.Fa.free "isinstance").ok K, (He.Fa.free "len").ok K, (He.Fa.free "list").ok K, (He.Fa.free "range").ok K, (He.Fa.free "repr").ok K, (He.Fa.free "str").ok K, (He.Fa.free "sum").ok K, (He.Fa.free "zip").ok K, (He.Fa.glo "FIELDS").ok K, HF.tupT K (He.ga K "FIELDS") [V.str "cast", V.str "order", V.str "alike", V.str "stale"], (He.Fa.str "NONE" "none").ok K, (He.Fa.glo "WORDS").ok K, HF.dicT K (He.ga K "WORDS")] : List Bool) ++ (([HF.dkT K (He.ga K "WORDS") "cast", HF.tupT K (HF.dkA K (He.ga K "WORDS") "cast") [V.str "none", V.str "shown", V.str "any"], HF.dkT K (He.ga K "WORDS") "order", HF.tupT K (HF.dkA K (He.ga K "WORDS") "order") [V.str "none", V.str "number"], HF.dkT K (He.ga K "WORDS") "alike", HF.tupT K (HF.dkA K (He.ga K "WORDS") "alike") [V.str "none", V.str "number", V.str "whence"], HF.dkT K (He.ga K "WORDS") "stale", HF.tupT K (HF.dkA K (He.ga K "WORDS") "stale") [V.str "none", V.str "let"]] : List Bool))))
def hfn : List He.DefD := ([⟨("_law_deck", none), "_law_deck", "_law_deck", defArgs s__law_deck, defBody s__law_deck, defScope s__law_deck, [], []⟩, ⟨("_law_draw", none), "_law_draw", "_law_draw", defArgs s__law_draw, defBody s__law_draw, defScope s__law_draw, [], []⟩, ⟨("_law_words", none), "_law_words", "_law_words", defArgs s__law_words, defBody s__law_words, defScope s__law_words, [], []⟩, ⟨("_law_all_rules", none), "_law_all_rules", "_law_all_rules", defArgs s__law_all_rules, defBody s__law_all_rules, defScope s__law_all_rules, [], []⟩, ⟨("_law_rule", none), "_law_rule", "_law_rule", defArgs s__law_rule, defBody s__law_rule, defScope s__law_rule, [], []⟩, ⟨("_law_due", none), "_law_due", "_law_due", defArgs s__law_due, defBody s__law_due, defScope s__law_due, [], []⟩, ⟨("law", none), "law", "law", defArgs s_law, defBody s_law, defScope s_law, [], []⟩, ⟨("Rule", some "__init__"), "__init__", "Rule.__init__", defArgs s_Rule___init__, defBody s_Rule___init__, defScope s_Rule___init__, [], []⟩, ⟨("Rule", some "four_words"), "four_words", "Rule.four_words", defArgs s_Rule_four_words, defBody s_Rule_four_words, defScope s_Rule_four_words, [], []⟩, ⟨("Rule", some "__eq__"), "__eq__", "Rule.__eq__", defArgs s_Rule___eq__, defBody s_Rule___eq__, defScope s_Rule___eq__, [], []⟩, ⟨("Rule", some "__str__"), "__str__", "Rule.__str__", defArgs s_Rule___str__, defBody s_Rule___str__, defScope s_Rule___str__, [], []⟩, ⟨("Rule", some "lets_no_more"), "lets_no_more", "Rule.lets_no_more", defArgs s_Rule_lets_no_more, defBody s_Rule_lets_no_more, defScope s_Rule_lets_no_more, [], []⟩, ⟨("NoRule", some "__init__"), "__init__", "NoRule.__init__", defArgs s_NoRule_init, defBody s_NoRule_init, defScope s_NoRule_init, [], []⟩] : List He.DefD)
def hds (K : PySem.W.Frag) : List Addr := [He.ga K "WORDS"]
def hks : List (List Str) := [["cast", "order", "alike", "stale"]]
theorem all_hk {P : Program} {w : World} {K : PySem.W.Frag} {h : Heap} {mg : Str → Option Value} {fa : Addr} (X : K.In h) (G : h.Ns mainGlobals mg) (hfa : mg "law" = some (.ref fa)) (c : HF.SaysF hts hfn hds hks w K)
    : ∃ fd : FuncData, (∀ (s : Shared) (u : Value), BindsTo s fd ⟨[u], []⟩ [("_law_script", u)]) ∧ ∀ base : Heap, K.In base → base.Ns mainGlobals mg → FnG P w K mg base 7 fa fd ["_law_script"] m_law := by
  obtain ⟨oc0, kv_f0, doc0, pm0, cd0, ct0, od0, an0, sl0, l0, cdx_f0, kx_f0, wx_f0⟩ := HF.fn_ex (c.fnOk 0)
  obtain ⟨oc1, kv_f1, doc1, pm1, cd1, ct1, od1, an1, sl1, l1, cdx_f1, kx_f1, wx_f1⟩ := HF.fn_ex (c.fnOk 1)
  obtain ⟨oc2, kv_f2, doc2, pm2, cd2, ct2, od2, an2, sl2, l2, cdx_f2, kx_f2, wx_f2⟩ := HF.fn_ex (c.fnOk 2)
  obtain ⟨oc3, kv_f3, doc3, pm3, cd3, ct3, od3, an3, sl3, l3, cdx_f3, kx_f3, wx_f3⟩ := HF.fn_ex (c.fnOk 3)
  obtain ⟨oc4, kv_f4, doc4, pm4, cd4, ct4, od4, an4, sl4, l4, cdx_f4, kx_f4, wx_f4⟩ := HF.fn_ex (c.fnOk 4)
  obtain ⟨oc5, kv_f5, doc5, pm5, cd5, ct5, od5, an5, sl5, l5, cdx_f5, kx_f5, wx_f5⟩ := HF.fn_ex (c.fnOk 5)
  obtain ⟨oc6, kv_f6, doc6, pm6, cd6, ct6, od6, an6, sl6, l6, cdx_f6, kx_f6, wx_f6⟩ := HF.fn_ex (c.fnOk 6)
  obtain ⟨oc7, kv_f7, doc7, pm7, cd7, ct7, od7, an7, sl7, l7, cdx_f7, kx_f7, wx_f7⟩ := HF.fn_ex (c.fnOk 7)
  obtain ⟨oc8, kv_f8, doc8, pm8, cd8, ct8, od8, an8, sl8, l8, cdx_f8, kx_f8, wx_f8⟩ := HF.fn_ex (c.fnOk 8)
  obtain ⟨oc9, kv_f9, doc9, pm9, cd9, ct9, od9, an9, sl9, l9, cdx_f9, kx_f9, wx_f9⟩ := HF.fn_ex (c.fnOk 9)
  obtain ⟨oc10, kv_f10, doc10, pm10, cd10, ct10, od10, an10, sl10, l10, cdx_f10, kx_f10, wx_f10⟩ := HF.fn_ex (c.fnOk 10)
  obtain ⟨oc11, kv_f11, doc11, pm11, cd11, ct11, od11, an11, sl11, l11, cdx_f11, kx_f11, wx_f11⟩ := HF.fn_ex (c.fnOk 11)
  obtain ⟨nm_NoRule, q_NoRule, N_NoRule, bs_NoRule, bm_NoRule, sn_NoRule, sub_NoRule, ab_NoRule, col_NoRule, dd_NoRule, m0_NoRule, m1_NoRule, m2_NoRule, m3_NoRule, m5_NoRule, xL_NoRule, bm__NoRule⟩ := HF.exc_ex (c.fact 27)
  obtain ⟨ocx_NoRule, kv_fx_NoRule, docx_NoRule, pmx_NoRule, cdx_NoRule, ctx_NoRule, odx_NoRule, anx_NoRule, slx_NoRule, lx_NoRule, cdx_fx_NoRule, kx_fx_NoRule, wx_fx_NoRule⟩ := HF.fn_ex (c.fnOk 12)
  obtain ⟨us_u_FIELDS, d_FIELDS, n_FIELDS, s_FIELDS, u_FIELDS, v_u_FIELDS_0⟩ := HF.tup_ex (c.fact 71)
  obtain ⟨t_FIELDS_0, us_u_FIELDS_1, rfl, v_u_FIELDS_1⟩ := HF.vals_str v_u_FIELDS_0
  obtain ⟨t_FIELDS_1, us_u_FIELDS_2, rfl, v_u_FIELDS_2⟩ := HF.vals_str v_u_FIELDS_1
  obtain ⟨t_FIELDS_2, us_u_FIELDS_3, rfl, v_u_FIELDS_3⟩ := HF.vals_str v_u_FIELDS_2
  obtain ⟨t_FIELDS_3, us_u_FIELDS_4, rfl, v_u_FIELDS_4⟩ := HF.vals_str v_u_FIELDS_3
  cases HF.vals_nil v_u_FIELDS_4
  obtain ⟨t_NONE, c_NONE⟩ := HF.str_n (c.fact 72)
  obtain ⟨es_WORDS, n_WORDS, dl_WORDS, dk_WORDS⟩ := HF.dic_ex (c.fact 74) (c.keys 0)
  obtain ⟨us_u_WORDS_0, d_WORDS_0, n_WORDS_0, s_WORDS_0, u_WORDS_0, v_u_WORDS_0_0⟩ := HF.tup_ex (c.fact 76)
  obtain ⟨t_WORDS_0_0, us_u_WORDS_0_1, rfl, v_u_WORDS_0_1⟩ := HF.vals_str v_u_WORDS_0_0
  obtain ⟨t_WORDS_0_1, us_u_WORDS_0_2, rfl, v_u_WORDS_0_2⟩ := HF.vals_str v_u_WORDS_0_1
  obtain ⟨t_WORDS_0_2, us_u_WORDS_0_3, rfl, v_u_WORDS_0_3⟩ := HF.vals_str v_u_WORDS_0_2
  cases HF.vals_nil v_u_WORDS_0_3
  obtain ⟨us_u_WORDS_1, d_WORDS_1, n_WORDS_1, s_WORDS_1, u_WORDS_1, v_u_WORDS_1_0⟩ := HF.tup_ex (c.fact 78)
  obtain ⟨t_WORDS_1_0, us_u_WORDS_1_1, rfl, v_u_WORDS_1_1⟩ := HF.vals_str v_u_WORDS_1_0
  obtain ⟨t_WORDS_1_1, us_u_WORDS_1_2, rfl, v_u_WORDS_1_2⟩ := HF.vals_str v_u_WORDS_1_1
  cases HF.vals_nil v_u_WORDS_1_2
  obtain ⟨us_u_WORDS_2, d_WORDS_2, n_WORDS_2, s_WORDS_2, u_WORDS_2, v_u_WORDS_2_0⟩ := HF.tup_ex (c.fact 80)
  obtain ⟨t_WORDS_2_0, us_u_WORDS_2_1, rfl, v_u_WORDS_2_1⟩ := HF.vals_str v_u_WORDS_2_0
  obtain ⟨t_WORDS_2_1, us_u_WORDS_2_2, rfl, v_u_WORDS_2_2⟩ := HF.vals_str v_u_WORDS_2_1
  obtain ⟨t_WORDS_2_2, us_u_WORDS_2_3, rfl, v_u_WORDS_2_3⟩ := HF.vals_str v_u_WORDS_2_2
  cases HF.vals_nil v_u_WORDS_2_3
  obtain ⟨us_u_WORDS_3, d_WORDS_3, n_WORDS_3, s_WORDS_3, u_WORDS_3, v_u_WORDS_3_0⟩ := HF.tup_ex (c.fact 82)
  obtain ⟨t_WORDS_3_0, us_u_WORDS_3_1, rfl, v_u_WORDS_3_1⟩ := HF.vals_str v_u_WORDS_3_0
  obtain ⟨t_WORDS_3_1, us_u_WORDS_3_2, rfl, v_u_WORDS_3_2⟩ := HF.vals_str v_u_WORDS_3_1
  cases HF.vals_nil v_u_WORDS_3_2
  exact all_mk X G hfa (HF.glo_n (c.fact 0)) l0 cdx_f0 kx_f0 (HF.glo_n (c.fact 1)) l1 cdx_f1 kx_f1 (HF.glo_n (c.fact 2)) l2 cdx_f2 kx_f2 (HF.glo_n (c.fact 3)) l3 cdx_f3 kx_f3 (HF.glo_n (c.fact 4)) l4 cdx_f4 kx_f4 (HF.glo_n (c.fact 5)) l5 cdx_f5 kx_f5 (HF.glo_n (c.fact 6)) l6 cdx_f6 kx_f6 (HF.glo_n (c.fact 7)) (HF.v_ok (c.fact 8)) l7 cdx_f7 kx_f7 (c.fact 9) (c.fact 10) (c.fact 11) (c.fact 12) (c.fact 13) (c.fact 14) (HF.v_ok (c.fact 15)) (HF.v_ok (c.fact 16)) l8 cdx_f8 kx_f8 (c.fact 17) (HF.v_ok (c.fact 18)) l9 cdx_f9 kx_f9 (c.fact 19) (HF.v_ok (c.fact 20)) l10 cdx_f10 kx_f10 (c.fact 21) (HF.v_ok (c.fact 22)) l11 cdx_f11 kx_f11 (c.fact 23) (HF.v_ok (c.fact 24)) (HF.b_ok (c.fact 25)) (HF.glo_n (c.fact 26)) xL_NoRule bm__NoRule (HF.v_ok (c.fact 28)) (HF.v_ok (c.fact 29)) (HF.v_ok (c.fact 30)) (HF.v_ok (c.fact 31)) (c.fact 32) (HF.b_ok (c.fact 33)) (HF.ty_ok (c.fact 34)) (c.fact 35) (c.fact 36) (HF.b_ok (c.fact 37)) (HF.b_ok (c.fact 38)) (HF.v_ok (c.fact 39)) (HF.glo_n (c.fact 40)) (HF.v_ok (c.fact 41)) (c.fact 42) (HF.fc_ok (c.fact 43)) (HF.v_ok (c.fact 44)) (HF.ty_ok (c.fact 45)) lx_NoRule cdx_fx_NoRule kx_fx_NoRule (HF.v_ok (c.fact 46)) (HF.v_ok (c.fact 47)) (HF.v_ok (c.fact 48)) (HF.v_ok (c.fact 49)) (c.fact 50) (HF.ty_ok (c.fact 51)) (HF.b_ok (c.fact 52)) (HF.b_ok (c.fact 53)) (HF.b_ok (c.fact 54)) (HF.b_ok (c.fact 55)) (HF.b_ok (c.fact 56)) (HF.b_ok (c.fact 57)) (HF.b_ok (c.fact 58)) (HF.v_ok (c.fact 59)) (HF.b_ok (c.fact 60)) (HF.free_n (c.fact 61)) (HF.free_n (c.fact 62)) (HF.free_n (c.fact 63)) (HF.free_n (c.fact 64)) (HF.free_n (c.fact 65)) (HF.free_n (c.fact 66)) (HF.free_n (c.fact 67)) (HF.free_n (c.fact 68)) (HF.free_n (c.fact 69)) (HF.glo_n (c.fact 70)) u_FIELDS c_NONE (HF.glo_n (c.fact 73)) dl_WORDS dk_WORDS (HF.dk_n (c.fact 75)) u_WORDS_0 (HF.dk_n (c.fact 77)) u_WORDS_1 (HF.dk_n (c.fact 79)) u_WORDS_2 (HF.dk_n (c.fact 81)) u_WORDS_3
abbrev hR : PySem.W.OpenRow := PySem.W.OpenLaw.row PySem.Challenge.rw_heldaddresses_k03_rules_that_let_no_more
abbrev hq : Program := PySem.W.view hR.prog [16]
def hnm : List Str := (["__name__", "HeldError", "NoRule", "FIELDS", "NONE", "WORDS", "Rule", "_law_deck", "_law_draw", "_law_pick", "_law_words", "_law_all_rules", "_law_rule", "_law_due"] : List Str)
abbrev hhk : PySem.W.Hook := HF.hookF 900 hts hfn hds hks
def hob (s : PySem.W.SharedT) : HF.Al := HF.obsG 900 hts hfn hds (HandSHeadRun.getT s)
theorem hob_eq (s : PySem.W.SharedT) : hob s = hhk.obs s.abs := HF.obsG_eq (HandSHeadRun.getT_eq s)
theorem hra_f (w : World) : HandSHeadRun.RunEq hR hq (HF.hookF 900 (fun K => (hts K).take 41) (hfn.take 6) hds hks) (fun s => HF.obsG 900 (fun K => (hts K).take 41) (hfn.take 6) hds (HandSHeadRun.getT s)) 8000 hnm (w.withFollow "special-get-raises" false) := by
  intro os
  kernel_rfl
theorem hrb_f (w : World) : HF.RunB hR 900 hts hfn 41 6 8000 (w.withFollow "special-get-raises" false) := by
  intro os
  kernel_rfl
theorem hrun_f (w : World) : HandSHeadRun.RunEq hR hq hhk hob 8000 hnm (w.withFollow "special-get-raises" false) := HF.run_join 41 6 (hra_f w) (hrb_f w)
theorem hra_t (w : World) : HandSHeadRun.RunEq hR hq (HF.hookF 900 (fun K => (hts K).take 41) (hfn.take 6) hds hks) (fun s => HF.obsG 900 (fun K => (hts K).take 41) (hfn.take 6) hds (HandSHeadRun.getT s)) 8000 hnm (w.withFollow "special-get-raises" true) := by
  intro os
  kernel_rfl
theorem hrb_t (w : World) : HF.RunB hR 900 hts hfn 41 6 8000 (w.withFollow "special-get-raises" true) := by
  intro os
  kernel_rfl
theorem hrun_t (w : World) : HandSHeadRun.RunEq hR hq hhk hob 8000 hnm (w.withFollow "special-get-raises" true) := HF.run_join 41 6 (hra_t w) (hrb_t w)
theorem hrun (w : World) : HandSHeadRun.RunEq hR hq hhk hob 8000 hnm w := PySem.W.byRow2 "special-get-raises" (P := fun w => HandSHeadRun.RunEq hR hq hhk hob 8000 hnm w) hrun_f hrun_t w
end HL
namespace HA
open PySem PySem.Spec PyProof.Rows L2
structure Dk where
  cells : List Int
  at_ : Int
  sum : Int
structure Dk.Ok (d : Dk) : Prop where
  len : d.cells.length ≤ 64
  lo : 0 ≤ d.at_
  hi : d.at_ < 2 ^ 100
theorem lNil_ints (neg : Bool) (cs : List Int) (ah : AH) : lNil neg (cs.map D.int) ah = .ok (if cs = [] then !neg else neg) ah := by
  cases cs with
  | nil => rfl
  | cons c cs => simp [lNil]
def mixA (seed at_ b : Int) : Int :=
  let n1 := (seed % 2147483647 * 48271 + 69621 * at_ * at_ + 7919) % 2147483629
  let n2 := n1 * n1 % 2147483587
  n2 * (n2 + 39373) % 2147483563 / 64 % b
def Dk.drawA (d : Dk) (b : Int) : Int × Dk := match d.cells with
  | [] => (mixA (d.sum + (d.at_ + 1)) (d.at_ + 1) b, ⟨[], d.at_ + 1, d.sum⟩)
  | c :: r => if c ≥ 10 ^ 18 then (c % b, ⟨c / b :: r, d.at_ + 1, d.sum⟩) else (mixA c (d.at_ + 1) b, ⟨r, d.at_ + 1, d.sum⟩)
def hA (S : List D) (d : Dk) (rest : AH) : AH := .ro S :: .lst (d.cells.map D.int) :: .dK [(.inr "cells", .ref 1), (.inr "at", .int d.at_), (.inr "sum", .int d.sum)] :: rest
def b_tailA : SM := (sSeq (sAsg (e2 (e2 (e2 (e2 (e2 (eVar 4) (eC (.int 2147483647)) oMod) (eC (.int 48271)) oMul) (e2 (e2 (eC (.int 69621)) (eVar 2) oMul) (eVar 2) oMul) oAdd) (eC (.int 7919)) oAdd) (eC (.int 2147483629)) oMod) (gSet 5)) (sSeq (sAsg (e2 (e2 (eVar 5) (eVar 5) oMul) (eC (.int 2147483587)) oMod) (gSet 5)) (sRet (e2 (e2 (e2 (e2 (eVar 5) (e2 (eVar 5) (eC (.int 39373)) oAdd) oMul) (eC (.int 2147483563)) oMod) (eC (.int 64)) oFdiv) (eVar 1) oMod))))
def b_drawA : SM := (sSeq (sPut (eVar 0) (eC (.str "at")) (e2 (e2 (eVar 0) (eC (.str "at")) oGet) (eC (.int 1)) oAdd)) (sSeq (sAsg (e2 (eVar 0) (eC (.str "at")) oGet) (gSet 2)) (sSeq (sAsg (e2 (eVar 0) (eC (.str "cells")) oGet) (gSet 3)) (sSeq (sAsg (e2 (e2 (eVar 0) (eC (.str "sum")) oGet) (eVar 2) oAddA) (gSet 4)) (sSeq (sIf (bNil true (e1 (eVar 3) listOf)) (sSeq (sAsg (eMt (eVar 3) (aCons (eC (.int 0)) aNil) mPop) (gSet 4)) (sIf (e2 (eVar 4) (e2 (eC (.int 10)) (eC (.int 18)) oPow) cGe) (sSeq (sExpr (eMt (eVar 3) (aCons (eC (.int 0)) (aCons (e2 (eVar 4) (eVar 1) oFdiv) aNil)) mInsert)) (sRet (e2 (eVar 4) (eVar 1) oMod))) sSkip)) sSkip) b_tailA)))))
def m_drawA : List D → AH → Res D := fnM 6 2 b_drawA
theorem Dk.drawA_at {d : Dk} {b : Int} : (d.drawA b).2.at_ = d.at_ + 1 := by
  unfold Dk.drawA
  cases e : d.cells with
  | nil => rfl
  | cons c r => dsimp only; split <;> rfl
theorem mixA_in {s a b : Int} (h : 0 < b) : 0 ≤ mixA s a b ∧ mixA s a b < b := by
  unfold mixA
  exact ⟨Int.emod_nonneg _ (by omega), Int.emod_lt_of_pos _ h⟩
theorem Dk.drawA_in {d : Dk} {b : Int} (h : 0 < b) : 0 ≤ (d.drawA b).1 ∧ (d.drawA b).1 < b := by
  unfold Dk.drawA
  cases e : d.cells with
  | nil => exact mixA_in h
  | cons c r =>
    dsimp only
    split
    · exact ⟨Int.emod_nonneg _ (by omega), Int.emod_lt_of_pos _ h⟩
    · exact mixA_in h
section
variable {S : List D} {d : Dk} {rest : AH}
theorem hA_cells : oGet (.ref 2) (.str "cells") (hA S d rest) = .ok (.ref 1) (hA S d rest) := by rfl
theorem hA_at : oGet (.ref 2) (.str "at") (hA S d rest) = .ok (.int d.at_) (hA S d rest) := by rfl
theorem hA_sum : oGet (.ref 2) (.str "sum") (hA S d rest) = .ok (.int d.sum) (hA S d rest) := by rfl
theorem hA_put {mo mv : EM D} {env : Env} {v : Int} (h1 : mv env (hA S d rest) = .ok (.int v) (hA S d rest)) (h2 : mo env (hA S d rest) = .ok (.ref 2) (hA S d rest)) : sPut mo (eC (.str "at")) mv env (hA S d rest) = .nx env (hA S ⟨d.cells, v, d.sum⟩ rest) := by
  unfold sPut
  rw [h1]
  simp only [thenS_ok]
  rw [h2]
  rfl
theorem hA_list : listOf (.ref 1) (hA S d rest) = .ok (d.cells.map D.int) (hA S d rest) := rfl
theorem hA_isList : isList (.ref 1) (hA S d rest) = true := rfl
theorem hA_pop {c : Int} {r : List Int} {a s : Int} : mPop (.ref 1) [.int 0] (hA S ⟨c :: r, a, s⟩ rest) = .ok (.int c) (hA S ⟨r, a, s⟩ rest) := by
  simp [mPop, hA, seqIndex?]
theorem hA_ins {v : Int} (h : d.cells.length < line) : mInsert (.ref 1) [.int 0, .int v] (hA S d rest) = .ok .non (hA S ⟨v :: d.cells, d.at_, d.sum⟩ rest) := by
  simp [mInsert, hA, h]
theorem hA_fin {d' : Dk} (x : D) : fin (hA S d rest) x (hA S d' rest) = .ok x (hA S d' rest) := fin_len x rfl
end
def DOk (n : Nat) (d : Dk) : Prop := d.cells.length ≤ 64 ∧ 0 ≤ d.at_ ∧ d.at_ ≤ n
theorem DOk.mono {m n : Nat} {d : Dk} (h : DOk m d) (l : m ≤ n) : DOk n d := ⟨h.1, h.2.1, by have := h.2.2; omega⟩
def dead (rest : AH) : AH := .ins "" [] :: .ins "" [] :: .ins "" [] :: rest
def b_deckA : SM := (sSeq (sAsg (eNew (e1 (e3 (eVar 0) (oPart none) (oPart (some (eC (.int 63)))) fun d lo hi ah => (listOf d ah).bind fun ds ah => lCut ds lo hi ah) sList)) (gSet 1)) (sRet (eDisp [((eC (.str "cells")), (eVar 1)), ((eC (.str "at")), (eC (.int 0))), ((eC (.str "sum")), (e2 (e2 (e1 (e1 (eVar 1) listOf) sSum) (eC (.int 2147483629)) oMod) (e2 (eC (.int 17)) (e1 (aCons (eVar 1) aNil) oLenA) oMul) oAdd))])))
def m_deckA : List D → AH → Res D := fnM 2 1 b_deckA
def dkA (ns : List Int) : Dk := ⟨ns, 0, ns.sum % 2147483629 + 17 * ns.length⟩
theorem dkA_ok {ns : List Int} (h : ns.length ≤ 63) : DOk 0 (dkA ns) := ⟨by show ns.length ≤ 64; omega, Int.le_refl _, Int.le_refl _⟩
theorem optAll_dInt : ∀ ns : List Int, optAll dInt (ns.map D.int) = some ns
  | [] => rfl
  | n :: ns => by simp [optAll, optAll_dInt ns, dInt]
theorem deck_A {ns : List Int} (h : ns.length ≤ 63) : m_deckA [.ref 0] (ah0 ns) = .ok (.ref 2) (hA (ns.map D.int) (dkA ns) []) := by
  have c1 : cut (ns.map D.int) none (some 63) = ns.map D.int := by
    unfold cut
    rw [HT.sIx_none, show (63 : Int) = ((63 : Nat) : Int) from rfl, HT.sIx_nat, List.drop_zero, List.take_of_length_le (by simp; omega)]
  have md : ∀ (i : Int) (ah : AH), oMod (.int i) (.int 2147483629) ah = .ok (.int (i % 2147483629)) ah := fun i ah => oMod_int ah (by decide)
  have ml : ∀ (ah : AH), oMul (.int 17) (.int ns.length) ah = .ok (.int (17 * ns.length)) ah := fun ah => oMul_int ah (by decide) (by omega)
  have n1 : ¬ (Str.ofString "cells" = Str.ofString "at") := by decide
  have n2 : ¬ (Str.ofString "cells" = Str.ofString "sum") := by decide
  have n3 : ¬ (Str.ofString "at" = Str.ofString "sum") := by decide
  unfold m_deckA b_deckA
  rw [fnM_1]
  simp [listOf, listAt, lCut, c1, sList, sSum, optAll_dInt, md, oLenA, oLen, ml, optAll, dKey, dispD, putD, n1, n2, n3]
  unfold fin
  simp [sound, D.und, AObj.und, D.unds, hA, dkA]
end HA
namespace HA
open PySem PySem.Spec PyProof.Rows L2
def mixB (seed at_ b : Int) : Int :=
  let n1 := (seed % 2147483629 + 7919 * at_ * at_ + 1) * 48271 % 2147483647
  let n2 := (n1 * n1 + 69621 * n1 + at_) % 2147483587
  n2 * (n2 / 5 + 39373) % 2147483579 / 64 % b
def hB (S : List D) (d : Dk) (rest : AH) : AH := .ro S :: .lst (d.cells.map D.int) :: .lst [.ref 1, .int d.sum, .int d.at_] :: rest
def b_tailB : SM := (sSeq (sAsg (e2 (e2 (e2 (e2 (e2 (eVar 2) (eC (.int 2147483629)) oMod) (e2 (e2 (eC (.int 7919)) (e2 (eVar 0) (eC (.int 2)) oIx) oMul) (e2 (eVar 0) (eC (.int 2)) oIx) oMul) oAdd) (eC (.int 1)) oAdd) (eC (.int 48271)) oMul) (eC (.int 2147483647)) oMod) (gSet 3)) (sSeq (sAsg (e2 (e2 (e2 (e2 (eVar 3) (eVar 3) oMul) (e2 (eC (.int 69621)) (eVar 3) oMul) oAdd) (e2 (eVar 0) (eC (.int 2)) oIx) oAdd) (eC (.int 2147483587)) oMod) (gSet 3)) (sRet (e2 (e2 (e2 (e2 (eVar 3) (e2 (e2 (eVar 3) (eC (.int 5)) oFdiv) (eC (.int 39373)) oAdd) oMul) (eC (.int 2147483579)) oMod) (eC (.int 64)) oFdiv) (eVar 1) oMod))))
def b_drawB : SM := (sSeq (sSetL (eVar 0) (eC (.int 2)) (e2 (e2 (eVar 0) (eC (.int 2)) oIx) (eC (.int 1)) oAdd)) (sSeq (sAsg (e2 (eVar 0) (eC (.int 1)) oIx) (gSet 2)) (sSeq (sIf (bNil true (e1 (e2 (eVar 0) (eC (.int 0)) oIx) listOf)) (sSeq (sAsg (eMt (e2 (eVar 0) (eC (.int 0)) oIx) aNil mPop) (gSet 2)) (sIf (e2 (eVar 2) (e2 (eC (.int 10)) (eC (.int 18)) oPow) cGe) (sSeq (sExpr (eMt (e2 (eVar 0) (eC (.int 0)) oIx) (aCons (e2 (eVar 2) (eVar 1) oFdiv) aNil) mAppend)) (sRet (e2 (eVar 2) (eVar 1) oMod))) sSkip)) sSkip) b_tailB)))
def m_drawB : List D → AH → Res D := fnM 4 2 b_drawB
section
variable {S : List D} {d : Dk} {rest : AH}
end
def b_deckB : SM := (sSeq (sAsg (eNew (e1 (e3 (eVar 0) (oPart none) (oPart (some (eC (.int 63)))) fun d lo hi ah => (listOf d ah).bind fun ds ah => lCut ds lo hi ah) lRevL)) (gSet 1)) (sRet (eNew (lLst (aCons (eVar 1) (aCons (e2 (e1 (lLc (e1 (eVar 1) iVal) (gSet 2) bYes (e2 (eVar 2) (eC (.int 2147483629)) oMod) [2]) sSum) (e2 (eC (.int 11)) (e1 (aCons (eVar 1) aNil) oLenA) oMul) oAdd) (aCons (eC (.int 0)) aNil)))))))
def m_deckB : List D → AH → Res D := fnM 3 1 b_deckB
def dkB (ns : List Int) : Dk := ⟨ns.reverse, 0, (ns.reverse.map fun c => c % 2147483629).sum + 11 * ns.length⟩
end HA
namespace HA
open PySem PySem.Spec PyProof.Rows L2
def b_deckC : SM := (sSeq (sAsg (eNew (e1 (e1 (e3 (eVar 0) (oPart none) (oPart (some (eC (.int 63)))) fun d lo hi ah => (listOf d ah).bind fun ds ah => lCut ds lo hi ah) sList) lRevL)) (gSet 1)) (sRet (eNew (lLst (aCons (eVar 1) (aCons (e2 (e1 (lLc (e1 (eVar 1) iVal) (gSet 2) bYes (e2 (eVar 2) (eC (.int 2147483629)) oMod) [2]) sSum) (e2 (eC (.int 11)) (e1 (aCons (eVar 1) aNil) oLenA) oMul) oAdd) (aCons (eC (.int 0)) aNil)))))))
def m_deckC : List D → AH → Res D := fnM 3 1 b_deckC
end HA
namespace HV
open PySem PySem.Spec PyProof.Rows L2 HA
inductive U where
  | non | bl (b : Bool) | int (i : Int) | str (x : Str)
  | tup (us : List U)
  | lst (us : List U)
  | dK (ks : List Key) (us : List U)
  | dT (ks : List (List Key)) (us : List U)
  | ins (C : Str) (fs : List Str) (us : List U)
  | ref (n : Nat)
  | cst (v : V)
  | glo (x : Str)
  | xv (a d : Addr) (ks : List Str) (us : List U)
deriving Inhabited
section
variable (ok : Nat → Prop) (ah : AH)
mutual
def R : U → D → Prop
  | .non, d => d = .non
  | .bl b, d => d = .bl b
  | .int i, d => d = .int i
  | .str x, d => d = .str x
  | .cst v, d => d = .cst v
  | .glo v, d => d = .glo v
  | .xv a e ks us, d => ∃ ds, d = .xv a e ks ds ∧ Rs us ds
  | .ref n, d => d = .ref n
  | .tup us, d => ∃ ds, d = .tup ds ∧ Rs us ds
  | .lst us, d => ∃ n ds, d = .ref n ∧ ok n ∧ ah[n]? = some (.lst ds) ∧ Rs us ds
  | .dK ks us, d => ∃ n kvs, d = .ref n ∧ ok n ∧ ah[n]? = some (.dK kvs) ∧ kvs.map (·.1) = ks ∧ Rs us (kvs.map (·.2))
  | .dT ks us, d => ∃ n kvs, d = .ref n ∧ ok n ∧ ah[n]? = some (.dT kvs) ∧ kvs.map (·.1) = ks ∧ Rs us (kvs.map (·.2))
  | .ins C fs us, d => ∃ n kvs, d = .ref n ∧ ok n ∧ ah[n]? = some (.ins C kvs) ∧ kvs.map (·.1) = fs ∧ Rs us (kvs.map (·.2))
def Rs : List U → List D → Prop
  | [], ds => ds = []
  | u :: us, ds => ∃ d es, ds = d :: es ∧ R u d ∧ Rs us es
end
end
def Sta (ok : Nat → Prop) (ah ah' : AH) : Prop := ∀ n o, ok n → ah[n]? = some o → ah'[n]? = some o
section
variable {ok ok' : Nat → Prop} {ah ah' : AH}
mutual
theorem R.mono (h1 : ∀ n, ok n → ok' n) (h2 : Sta ok ah ah') : ∀ (u : U) (d : D), R ok ah u d → R ok' ah' u d
  | .non, _, h => by simp only [R] at h ⊢; exact h
  | .bl b, _, h => by simp only [R] at h ⊢; exact h
  | .int b, _, h => by simp only [R] at h ⊢; exact h
  | .str b, _, h => by simp only [R] at h ⊢; exact h
  | .cst b, _, h => by simp only [R] at h ⊢; exact h
  | .glo b, _, h => by simp only [R] at h ⊢; exact h
  | .xv a e ks us, _, h => by simp only [R] at h ⊢; obtain ⟨ds, e, r⟩ := h; exact ⟨ds, e, Rs.mono h1 h2 us ds r⟩
  | .ref b, _, h => by simp only [R] at h ⊢; exact h
  | .tup us, _, h => by simp only [R] at h ⊢; obtain ⟨ds, e, r⟩ := h; exact ⟨ds, e, Rs.mono h1 h2 us ds r⟩
  | .lst us, _, h => by simp only [R] at h ⊢; obtain ⟨n, ds, e, o, q, r⟩ := h; exact ⟨n, ds, e, h1 n o, h2 n _ o q, Rs.mono h1 h2 us ds r⟩
  | .dK ks us, _, h => by simp only [R] at h ⊢; obtain ⟨n, ds, e, o, q, z, r⟩ := h; exact ⟨n, ds, e, h1 n o, h2 n _ o q, z, Rs.mono h1 h2 us _ r⟩
  | .dT ks us, _, h => by simp only [R] at h ⊢; obtain ⟨n, ds, e, o, q, z, r⟩ := h; exact ⟨n, ds, e, h1 n o, h2 n _ o q, z, Rs.mono h1 h2 us _ r⟩
  | .ins C ks us, _, h => by simp only [R] at h ⊢; obtain ⟨n, ds, e, o, q, z, r⟩ := h; exact ⟨n, ds, e, h1 n o, h2 n _ o q, z, Rs.mono h1 h2 us _ r⟩
theorem Rs.mono (h1 : ∀ n, ok n → ok' n) (h2 : Sta ok ah ah') : ∀ (us : List U) (ds : List D), Rs ok ah us ds → Rs ok' ah' us ds
  | [], _, h => by simp only [Rs] at h ⊢; exact h
  | u :: us, _, h => by simp only [Rs] at h ⊢; obtain ⟨d, es, e, q, r⟩ := h; exact ⟨d, es, e, R.mono h1 h2 u d q, Rs.mono h1 h2 us es r⟩
end
mutual
def U.flat : U → Bool
  | .tup us => U.flats us
  | .xv _ _ _ us => U.flats us
  | .lst _ | .dK _ _ | .dT _ _ | .ins _ _ _ => false
  | _ => true
def U.flats : List U → Bool
  | [] => true
  | u :: us => U.flat u && U.flats us
end
mutual
theorem R.flat : ∀ (u : U) (d : D), u.flat = true → R ok ah u d → R ok' ah' u d
  | .non, _, _, h => by simp only [R] at h ⊢; exact h
  | .bl b, _, _, h => by simp only [R] at h ⊢; exact h
  | .int b, _, _, h => by simp only [R] at h ⊢; exact h
  | .str b, _, _, h => by simp only [R] at h ⊢; exact h
  | .cst b, _, _, h => by simp only [R] at h ⊢; exact h
  | .glo b, _, _, h => by simp only [R] at h ⊢; exact h
  | .xv a e ks us, _, f, h => by simp only [R] at h ⊢; simp only [U.flat] at f; obtain ⟨ds, e, r⟩ := h; exact ⟨ds, e, Rs.flat us ds f r⟩
  | .ref b, _, _, h => by simp only [R] at h ⊢; exact h
  | .tup us, _, f, h => by simp only [R] at h ⊢; simp only [U.flat] at f; obtain ⟨ds, e, r⟩ := h; exact ⟨ds, e, Rs.flat us ds f r⟩
  | .lst us, _, f, h => by simp [U.flat] at f
  | .dK ks us, _, f, h => by simp [U.flat] at f
  | .dT ks us, _, f, h => by simp [U.flat] at f
  | .ins C ks us, _, f, h => by simp [U.flat] at f
theorem Rs.flat : ∀ (us : List U) (ds : List D), U.flats us = true → Rs ok ah us ds → Rs ok' ah' us ds
  | [], _, _, h => by simp only [Rs] at h ⊢; exact h
  | u :: us, _, f, h => by
    simp only [Rs] at h ⊢
    simp only [U.flats, Bool.and_eq_true] at f
    obtain ⟨d, es, e, q, r⟩ := h
    exact ⟨d, es, e, R.flat u d f.1 q, Rs.flat us es f.2 r⟩
end
theorem Rs.nil : Rs ok ah [] [] := by simp only [Rs]
theorem Rs.cons {u : U} {d : D} {us : List U} {ds : List D} (h : R ok ah u d) (t : Rs ok ah us ds) : Rs ok ah (u :: us) (d :: ds) := by simp only [Rs]; exact ⟨d, ds, rfl, h, t⟩
theorem Rs.len : ∀ {us : List U} {ds : List D}, Rs ok ah us ds → us.length = ds.length
  | [], _, h => by simp only [Rs] at h; subst h; rfl
  | u :: us, _, h => by simp only [Rs] at h; obtain ⟨d, es, rfl, q, r⟩ := h; simp [Rs.len r]
theorem Rs.app : ∀ {us vs : List U} {ds es : List D}, Rs ok ah us ds → Rs ok ah vs es → Rs ok ah (us ++ vs) (ds ++ es)
  | [], _, _, _, h, t => by simp only [Rs] at h; subst h; exact t
  | u :: us, _, _, _, h, t => by simp only [Rs] at h; obtain ⟨d, es, rfl, q, r⟩ := h; exact Rs.cons q (Rs.app r t)
theorem Rs.get : ∀ {us : List U} {ds : List D} {i : Nat} {u : U}, Rs ok ah us ds → us[i]? = some u → ∃ d, ds[i]? = some d ∧ R ok ah u d
  | [], _, _, _, _, e => by simp at e
  | u :: us, _, i, x, h, e => by
    simp only [Rs] at h
    obtain ⟨d, es, rfl, q, r⟩ := h
    cases i with
    | zero => simp at e; subst e; exact ⟨d, rfl, q⟩
    | succ i => simpa using Rs.get (i := i) r (by simpa using e)
theorem Rs.take : ∀ {us : List U} {ds : List D} (n : Nat), Rs ok ah us ds → Rs ok ah (us.take n) (ds.take n)
  | _, _, 0, _ => by simpa using Rs.nil
  | [], _, n + 1, h => by simp only [Rs] at h; subst h; simpa using Rs.nil
  | u :: us, _, n + 1, h => by simp only [Rs] at h; obtain ⟨d, es, rfl, q, r⟩ := h; exact Rs.cons q (Rs.take n r)
theorem Rs.drop : ∀ {us : List U} {ds : List D} (n : Nat), Rs ok ah us ds → Rs ok ah (us.drop n) (ds.drop n)
  | _, _, 0, h => h
  | [], _, n + 1, h => by simp only [Rs] at h; subst h; simpa using Rs.nil
  | u :: us, _, n + 1, h => by simp only [Rs] at h; obtain ⟨d, es, rfl, q, r⟩ := h; exact Rs.drop n r
theorem Rs.set : ∀ {us : List U} {ds : List D} (n : Nat) {u : U} {d : D}, Rs ok ah us ds → R ok ah u d → Rs ok ah (us.set n u) (ds.set n d)
  | [], _, n, _, _, h, _ => by simp only [Rs] at h; subst h; simpa using Rs.nil
  | u :: us, _, 0, _, _, h, x => by simp only [Rs] at h; obtain ⟨d, es, rfl, q, r⟩ := h; exact Rs.cons x r
  | u :: us, _, n + 1, _, _, h, x => by simp only [Rs] at h; obtain ⟨d, es, rfl, q, r⟩ := h; exact Rs.cons q (Rs.set n r x)
theorem Rs.rev : ∀ {us : List U} {ds : List D}, Rs ok ah us ds → Rs ok ah us.reverse ds.reverse
  | [], _, h => by simp only [Rs] at h; subst h; simpa using Rs.nil
  | u :: us, _, h => by
    simp only [Rs] at h
    obtain ⟨d, es, rfl, q, r⟩ := h
    rw [List.reverse_cons, List.reverse_cons]
    exact (Rs.rev r).app (Rs.cons q Rs.nil)
theorem Rs.eraseIdx : ∀ {us : List U} {ds : List D} (n : Nat), Rs ok ah us ds → Rs ok ah (us.eraseIdx n) (ds.eraseIdx n)
  | [], _, n, h => by simp only [Rs] at h; subst h; simpa using Rs.nil
  | u :: us, _, 0, h => by simp only [Rs] at h; obtain ⟨d, es, rfl, q, r⟩ := h; exact r
  | u :: us, _, n + 1, h => by simp only [Rs] at h; obtain ⟨d, es, rfl, q, r⟩ := h; exact Rs.cons q (Rs.eraseIdx n r)
theorem Rs.dropLast {us : List U} {ds : List D} (h : Rs ok ah us ds) : Rs ok ah us.dropLast ds.dropLast := by
  rw [List.dropLast_eq_take, List.dropLast_eq_take, ← h.len]; exact h.take _
theorem Rs.rep {us : List U} {ds : List D} (h : Rs ok ah us ds) : ∀ n : Nat, Rs ok ah (List.replicate n us).flatten (List.replicate n ds).flatten
  | 0 => by simpa using Rs.nil
  | n + 1 => by rw [List.replicate_succ, List.replicate_succ, List.flatten_cons, List.flatten_cons]; exact h.app (Rs.rep h n)
theorem Rs.ints : ∀ {ns : List Int} {ds : List D}, Rs ok ah (ns.map U.int) ds → ds = ns.map D.int
  | [], _, h => by simp only [List.map_nil, Rs] at h; subst h; rfl
  | n :: ns, _, h => by simp only [List.map_cons, Rs, R] at h; obtain ⟨d, es, rfl, rfl, r⟩ := h; rw [Rs.ints r]; rfl
theorem Rs.of_ints : ∀ (ns : List Int), Rs ok ah (ns.map U.int) (ns.map D.int)
  | [] => Rs.nil
  | n :: ns => Rs.cons (by simp only [R]) (Rs.of_ints ns)
end
def OR (ok : Nat → Prop) (ah : AH) : U → AObj → Prop
  | .lst us, .lst ds => Rs ok ah us ds
  | .dK ks us, .dK kvs => kvs.map (·.1) = ks ∧ Rs ok ah us (kvs.map (·.2))
  | .dT ks us, .dT kvs => kvs.map (·.1) = ks ∧ Rs ok ah us (kvs.map (·.2))
  | .ins C fs us, .ins C' kvs => C = C' ∧ kvs.map (·.1) = fs ∧ Rs ok ah us (kvs.map (·.2))
  | _, _ => False
section
variable {ok ok' : Nat → Prop} {ah ah' : AH}
theorem OR.mono (h1 : ∀ n, ok n → ok' n) (h2 : Sta ok ah ah') {u : U} {o : AObj} (h : OR ok ah u o) : OR ok' ah' u o := by
  unfold OR at h ⊢
  split at h
  · exact Rs.mono h1 h2 _ _ h
  · exact ⟨h.1, Rs.mono h1 h2 _ _ h.2⟩
  · exact ⟨h.1, Rs.mono h1 h2 _ _ h.2⟩
  · exact ⟨h.1, h.2.1, Rs.mono h1 h2 _ _ h.2.2⟩
  · exact h
theorem OR.to {u : U} {o : AObj} {n : Nat} (h : OR ok ah u o) (hn : ok n) (e : ah[n]? = some o) : R ok ah u (.ref n) := by
  unfold OR at h
  split at h
  · simp only [R]; exact ⟨n, _, rfl, hn, e, h⟩
  · simp only [R]; exact ⟨n, _, rfl, hn, e, h⟩
  · simp only [R]; exact ⟨n, _, rfl, hn, e, h⟩
  · obtain ⟨rfl, h⟩ := h; simp only [R]; exact ⟨n, _, rfl, hn, e, h⟩
  · exact h.elim
end
structure Grow (ah ah' : AH) : Prop where
  len : ah.length ≤ ah'.length
  same : ∀ n, 3 ≤ n → n < ah.length → ah'[n]? = ah[n]?
theorem Grow.refl {ah : AH} : Grow ah ah := ⟨Nat.le_refl _, fun _ _ _ => rfl⟩
theorem Grow.trans {a b c : AH} (h : Grow a b) (k : Grow b c) : Grow a c := ⟨Nat.le_trans h.len k.len, fun n h3 hn => (k.same n h3 (Nat.lt_of_lt_of_le hn h.len)).trans (h.same n h3 hn)⟩
theorem Grow.app {ah x : AH} : Grow ah (ah ++ x) := ⟨by simp, fun n _ hn => List.getElem?_append_left hn⟩
structure OkF (ok : Nat → Prop) (ah : AH) : Prop where
  three : ∀ n, ok n → 3 ≤ n
  fresh : ∀ n, ah.length ≤ n → ok n
theorem Grow.sta {ok : Nat → Prop} {ah ah' : AH} (g : Grow ah ah') (h : OkF ok ah) : Sta ok ah ah' := fun n o hn e => by
  rw [g.same n (h.three n hn) (List.getElem?_eq_some_iff.mp e).1]; exact e
theorem OkF.grow {ok : Nat → Prop} {ah ah' : AH} (h : OkF ok ah) (g : Grow ah ah') : OkF ok ah' := ⟨h.three, fun n hn => h.fresh n (Nat.le_trans g.len hn)⟩
theorem R.grow {ok : Nat → Prop} {ah ah' : AH} {u : U} {d : D} (h : R ok ah u d) (o : OkF ok ah) (g : Grow ah ah') : R ok ah' u d := R.mono (fun _ h => h) (g.sta o) u d h
theorem Rs.grow {ok : Nat → Prop} {ah ah' : AH} {u : List U} {d : List D} (h : Rs ok ah u d) (o : OkF ok ah) (g : Grow ah ah') : Rs ok ah' u d := Rs.mono (fun _ h => h) (g.sta o) u d h
structure Dks where
  at' : Nat → AH → Prop
  len : ∀ {N ah}, at' N ah → 3 ≤ ah.length
  stay : ∀ {N ah ah'}, at' N ah → 3 ≤ ah'.length → (∀ n, n < 3 → ah'[n]? = ah[n]?) → at' N ah'
  mono : ∀ {N M ah}, at' N ah → N ≤ M → at' M ah
def LIM : Nat := 2 ^ 5000
def cb (c : Nat) : Nat := if c = 0 then 0 else 2 ^ c
def sq (a b : Nat) : Nat := if a = 0 then b else if b = 0 then a else max a b + 1
def lp (c : Nat) : Nat := if c = 0 then 0 else c + 24
theorem cb_sq (a b : Nat) : cb a + cb b ≤ cb (sq a b) := by
  unfold cb sq
  by_cases ha : a = 0
  · simp [ha]
  · by_cases hb : b = 0
    · simp [ha, hb]
    · simp only [ha, hb, if_false, Nat.add_eq_zero_iff, Nat.one_ne_zero, and_false]
      have h1 : 2 ^ a ≤ 2 ^ max a b := Nat.pow_le_pow_right (by decide) (Nat.le_max_left _ _)
      have h2 : 2 ^ b ≤ 2 ^ max a b := Nat.pow_le_pow_right (by decide) (Nat.le_max_right _ _)
      rw [Nat.pow_succ]
      omega
theorem cb_left (a b : Nat) : cb a ≤ cb (sq a b) := Nat.le_trans (Nat.le_add_right _ _) (cb_sq a b)
theorem cb_mono {a b : Nat} (h : a ≤ b) : cb a ≤ cb b := by
  unfold cb
  by_cases ha : a = 0
  · simp [ha]
  · rw [if_neg ha, if_neg (by omega)]
    exact Nat.pow_le_pow_right (by decide) h
theorem cb_lp (c n : Nat) (h : n ≤ 2 ^ 24) : n * cb c ≤ cb (lp c) := by
  unfold cb lp
  by_cases ha : c = 0
  · simp [ha]
  · simp only [ha, if_false, Nat.add_eq_zero_iff, false_and]
    rw [Nat.pow_add, Nat.mul_comm (2 ^ c)]
    exact Nat.mul_le_mul_right _ h
structure Rl (α β : Type) where
  r : (Nat → Prop) → AH → α → β → Prop
  mono : ∀ {ok ok' : Nat → Prop} {ah ah' : AH} {a : α} {b : β}, (∀ n, ok n → ok' n) → Sta ok ah ah' → r ok ah a b → r ok' ah' a b
def RU : Rl U D := ⟨fun ok ah => R ok ah, fun h1 h2 => R.mono h1 h2 _ _⟩
def RUs : Rl (List U) (List D) := ⟨fun ok ah => Rs ok ah, fun h1 h2 => Rs.mono h1 h2 _ _⟩
def REq (α : Type) : Rl α α := ⟨fun _ _ a b => a = b, fun _ _ h => h⟩
theorem Rl.grow {α β : Type} (Q : Rl α β) {ok : Nat → Prop} {ah ah' : AH} {a : α} {b : β} (h : Q.r ok ah a b) (o : OkF ok ah) (g : Grow ah ah') : Q.r ok ah' a b := Q.mono (fun _ h => h) (g.sta o) h
abbrev UEnv := List (Option U)
abbrev EF := Option (List Str × List U)
abbrev ExK := Str → EF → Prop
abbrev VE (α : Type) := UEnv → ExK → (α → Prop) → Prop
def RX (ok : Nat → Prop) (ah : AH) : EF → Option (List (Str × D)) → Prop
  | none, fs => fs = none
  | some (ks, us), fs => ∃ kvs, fs = some kvs ∧ kvs.map (·.1) = ks ∧ Rs ok ah us (kvs.map (·.2))
theorem RX.mono {ok ok' : Nat → Prop} {ah ah' : AH} (h1 : ∀ n, ok n → ok' n) (h2 : Sta ok ah ah') {f : EF} {fs : Option (List (Str × D))} (h : RX ok ah f fs) : RX ok' ah' f fs := by
  match f, h with
  | none, h => exact h
  | some (ks, us), ⟨kvs, e, z, r⟩ => exact ⟨kvs, e, z, Rs.mono h1 h2 _ _ r⟩
structure EnvR (ok : Nat → Prop) (ah : AH) (Γ : UEnv) (env : HA.Env) : Prop where
  len : env.length = Γ.length
  at' : ∀ (i : Nat) (u : U), Γ[i]? = some (some u) → ∃ d, env[i]? = some (some d) ∧ R ok ah u d
theorem EnvR.grow {ok : Nat → Prop} {ah ah' : AH} {Γ : UEnv} {env : HA.Env} (h : EnvR ok ah Γ env) (o : OkF ok ah) (g : Grow ah ah') : EnvR ok ah' Γ env :=
  ⟨h.len, fun i u e => let ⟨d, e1, r⟩ := h.at' i u e; ⟨d, e1, r.grow o g⟩⟩
section
variable (K : Dks) {α β γ δ α' β' γ' δ' : Type}
def PR (ok : Nat → Prop) (ah : AH) (N : Nat) (Q : Rl α β) (X : ExK) (k : α → Prop) : Res β → Prop
  | .ok b ah' => ∃ a, k a ∧ Q.r ok ah' a b ∧ Grow ah ah' ∧ K.at' N ah'
  | .exn c fs ah' => ∃ f, X c f ∧ RX ok ah' f fs ∧ Grow ah ah' ∧ K.at' N ah'
  | .stuck => False
variable {K}
theorem PR.bind {ok : Nat → Prop} {ah : AH} {N M : Nat} {Q : Rl α β} {Q' : Rl γ δ} {X : ExK} {k : α → Prop} {k' : γ → Prop} {r : Res β} {f : β → AH → Res δ}
    (h : PR K ok ah N Q X k r) (hN : N ≤ M) (hf : ∀ a b ah', k a → Q.r ok ah' a b → Grow ah ah' → K.at' N ah' → PR K ok ah' M Q' X k' (f b ah')) : PR K ok ah M Q' X k' (r.bind f) := by
  cases r with
  | ok b ah' =>
    obtain ⟨a, ka, q, g, kk⟩ := h
    have := hf a b ah' ka q g kk
    show PR K ok ah M Q' X k' (f b ah')
    cases e : f b ah' with
    | ok d ah2 => rw [e] at this; obtain ⟨c, kc, q2, g2, k2⟩ := this; exact ⟨c, kc, q2, g.trans g2, k2⟩
    | exn c fs ah2 => rw [e] at this; obtain ⟨c, kc, q2, g2, k2⟩ := this; exact ⟨c, kc, q2, g.trans g2, k2⟩
    | stuck => rw [e] at this; exact this
  | exn c fs ah' =>
    obtain ⟨f, x, q, g, kk⟩ := h
    exact ⟨f, x, q, g, K.mono kk hN⟩
  | stuck => exact h
variable (K)
structure LE (Q : Rl α β) (c : Nat) (m : EM β) (p : VE α) : Prop where
  to : ∀ {ok : Nat → Prop} {Γ : UEnv} {env : HA.Env} {ah : AH} {N : Nat} {X : ExK} {k : α → Prop}, OkF ok ah → EnvR ok ah Γ env → K.at' N ah → N + cb c ≤ LIM → p Γ X k → PR K ok ah (N + cb c) Q X k (m env ah)
structure LO1 (Q : Rl α β) (Q' : Rl γ δ) (c : Nat) (f : β → AH → Res δ) (p : α → ExK → (γ → Prop) → Prop) : Prop where
  to : ∀ {ok : Nat → Prop} {ah : AH} {N : Nat} {X : ExK} {k : γ → Prop} {a : α} {b : β}, OkF ok ah → Q.r ok ah a b → K.at' N ah → N + cb c ≤ LIM → p a X k → PR K ok ah (N + cb c) Q' X k (f b ah)
structure LO2 (Q : Rl α β) (Q1 : Rl α' β') (Q' : Rl γ δ) (f : β → β' → AH → Res δ) (p : α → α' → ExK → (γ → Prop) → Prop) : Prop where
  to : ∀ {ok : Nat → Prop} {ah : AH} {N : Nat} {X : ExK} {k : γ → Prop} {a : α} {b : β} {a' : α'} {b' : β'}, OkF ok ah → Q.r ok ah a b → Q1.r ok ah a' b' → K.at' N ah → p a a' X k → PR K ok ah N Q' X k (f b b' ah)
structure LO3 (Q : Rl α β) (Q1 : Rl α' β') (Q2 : Rl γ' δ') (Q' : Rl γ δ) (f : β → β' → δ' → AH → Res δ) (p : α → α' → γ' → ExK → (γ → Prop) → Prop) : Prop where
  to : ∀ {ok : Nat → Prop} {ah : AH} {N : Nat} {X : ExK} {k : γ → Prop} {a : α} {b : β} {a' : α'} {b' : β'} {a2 : γ'} {b2 : δ'}, OkF ok ah → Q.r ok ah a b → Q1.r ok ah a' b' → Q2.r ok ah a2 b2 → K.at' N ah → p a a' a2 X k → PR K ok ah N Q' X k (f b b' b2 ah)
def v1 (pa : VE α) (f : α → ExK → (γ → Prop) → Prop) : VE γ := fun Γ X k => pa Γ X fun a => f a X k
def v2 (pa : VE α) (pb : VE α') (f : α → α' → ExK → (γ → Prop) → Prop) : VE γ := fun Γ X k => pa Γ X fun a => pb Γ X fun b => f a b X k
def v3 (pa : VE α) (pb : VE α') (pc : VE γ') (f : α → α' → γ' → ExK → (γ → Prop) → Prop) : VE γ := fun Γ X k => pa Γ X fun a => pb Γ X fun b => pc Γ X fun c => f a b c X k
variable {K}
theorem LE.weak {Q : Rl α β} {c c' : Nat} {m : EM β} {p : VE α} (h : LE K Q c m p) (hc : cb c ≤ cb c') : LE K Q c' m p := ⟨fun o e k l x => by
  have := h.to o e k (by omega) x
  revert this
  unfold PR
  split
  · exact fun ⟨a, h1, h2, h3, h4⟩ => ⟨a, h1, h2, h3, K.mono h4 (by omega)⟩
  · exact fun ⟨a, h1, h2, h3, h4⟩ => ⟨a, h1, h2, h3, K.mono h4 (by omega)⟩
  · exact fun h => h⟩
theorem le_1 {Q : Rl α β} {Q' : Rl γ δ} {c c' : Nat} {m : EM β} {p : VE α} {f : β → AH → Res δ} {pf : α → ExK → (γ → Prop) → Prop} (h : LE K Q c m p) (hf : LO1 K Q Q' c' f pf) : LE K Q' (sq c c') (e1 m f) (v1 p pf) := ⟨fun {ok Γ env ah N X k} o e kk l x => by
  have s := cb_sq c c'
  refine PR.bind (h.to o e kk (by omega) x) (Nat.add_le_add_left (cb_left c c') N) fun a b ah' ka q g k2 => ?_
  have := hf.to (o.grow g) q k2 (by omega) ka
  refine (?_ : ∀ M, _ ≤ M → PR K ok ah' M Q' X k (f b ah')) _ (show N + cb c + cb c' ≤ N + cb (sq c c') by omega)
  intro M hM
  revert this
  unfold PR
  split
  · exact fun ⟨a, h1, h2, h3, h4⟩ => ⟨a, h1, h2, h3, K.mono h4 hM⟩
  · exact fun ⟨a, h1, h2, h3, h4⟩ => ⟨a, h1, h2, h3, K.mono h4 hM⟩
  · exact fun h => h⟩
theorem PR.le {ok : Nat → Prop} {ah : AH} {N M : Nat} {Q : Rl α β} {X : ExK} {k : α → Prop} {r : Res β} (h : PR K ok ah N Q X k r) (hM : N ≤ M) : PR K ok ah M Q X k r := by
  revert h
  unfold PR
  split
  · exact fun ⟨a, h1, h2, h3, h4⟩ => ⟨a, h1, h2, h3, K.mono h4 hM⟩
  · exact fun ⟨a, h1, h2, h3, h4⟩ => ⟨a, h1, h2, h3, K.mono h4 hM⟩
  · exact fun h => h
theorem le_2 {Q : Rl α β} {Q1 : Rl α' β'} {Q' : Rl γ δ} {c c' : Nat} {m : EM β} {p : VE α} {m' : EM β'} {p' : VE α'} {f : β → β' → AH → Res δ} {pf : α → α' → ExK → (γ → Prop) → Prop} (h : LE K Q c m p) (h' : LE K Q1 c' m' p') (hf : LO2 K Q Q1 Q' f pf) : LE K Q' (sq c c') (e2 m m' f) (v2 p p' pf) := ⟨fun {ok Γ env ah N X k} o e kk l x => by
  have s := cb_sq c c'
  refine PR.bind (h.to o e kk (by omega) x) (Nat.add_le_add_left (cb_left c c') N) fun a b ah' ka q g k2 => ?_
  refine PR.bind ((h'.to (o.grow g) (e.grow o g) k2 (by omega) ka).le (M := N + cb (sq c c')) (by omega)) (Nat.le_refl _) fun a' b' ah2 ka2 q2 g2 k3 => ?_
  exact hf.to ((o.grow g).grow g2) (Q.grow q (o.grow g) g2) q2 k3 ka2⟩
end
end HV
namespace HV
open PySem PySem.Spec PyProof.Rows L2 HA
section
variable {K : Dks} {α β γ δ α' β' γ' δ' : Type}
theorem PR.okI {ok : Nat → Prop} {ah : AH} {N : Nat} {Q : Rl α β} {X : ExK} {k : α → Prop} {a : α} {b : β} (hk : k a) (q : Q.r ok ah a b) (kk : K.at' N ah) : PR K ok ah N Q X k (.ok b ah) := ⟨a, hk, q, Grow.refl, kk⟩
theorem Dks.app {N : Nat} {ah : AH} (x : AH) (h : K.at' N ah) : K.at' N (ah ++ x) := by
  have l := K.len h
  exact K.stay h (by simp; omega) fun n hn => List.getElem?_append_left (by omega)
theorem PR.newI {ok : Nat → Prop} {ah x : AH} {N : Nat} {Q : Rl α β} {X : ExK} {k : α → Prop} {a : α} {b : β} (hk : k a) (q : Q.r ok (ah ++ x) a b) (kk : K.at' N ah) : PR K ok ah N Q X k (.ok b (ah ++ x)) := ⟨a, hk, q, Grow.app, K.app x kk⟩
theorem cb_zero : cb 0 = 0 := rfl
def vVar (i : Nat) : VE U := fun Γ _ k => match Γ[i]? with
  | some (some u) => k u
  | _ => False
theorem le_var (i : Nat) : LE K RU 0 (eVar i) (vVar i) := ⟨fun {ok Γ env ah N X k} o e kk l x => by
  unfold vVar at x
  split at x
  · rename_i u hu
    obtain ⟨d, h1, h2⟩ := e.at' i u hu
    unfold eVar
    rw [h1]
    exact .okI x h2 kk
  · exact x.elim⟩
mutual
def toU : D → U
  | .non => .non
  | .bl b => .bl b
  | .int i => .int i
  | .str x => .str x
  | .ref n => .ref n
  | .cst v => .cst v
  | .glo v => .glo v
  | .xv a e ks ds => .xv a e ks (toUs ds)
  | .tup ds => .tup (toUs ds)
def toUs : List D → List U
  | [] => []
  | d :: ds => toU d :: toUs ds
end
mutual
theorem R_toU {ok : Nat → Prop} {ah : AH} : ∀ d : D, R ok ah (toU d) d
  | .non => by simp only [toU, R]
  | .bl b => by simp only [toU, R]
  | .int i => by simp only [toU, R]
  | .str x => by simp only [toU, R]
  | .ref n => by simp only [toU, R]
  | .cst v => by simp only [toU, R]
  | .glo v => by simp only [toU, R]
  | .xv a e ks ds => by simp only [toU, R]; exact ⟨ds, rfl, Rs_toU ds⟩
  | .tup ds => by simp only [toU, R]; exact ⟨ds, rfl, Rs_toU ds⟩
theorem Rs_toU {ok : Nat → Prop} {ah : AH} : ∀ ds : List D, Rs ok ah (toUs ds) ds
  | [] => by simp only [toUs, Rs]
  | d :: ds => by simp only [toUs, Rs]; exact ⟨d, ds, rfl, R_toU d, Rs_toU ds⟩
end
def vC (d : D) : VE U := fun _ _ k => k (toU d)
theorem le_c (d : D) : LE K RU 0 (eC d) (vC d) := ⟨fun o e kk l x => .okI x (R_toU d) kk⟩
def vaNil : VE (List U) := fun _ _ k => k []
def vaCons (p : VE U) (r : VE (List U)) : VE (List U) := fun Γ X k => p Γ X fun u => r Γ X fun us => k (u :: us)
theorem le_anil : LE K RUs 0 aNil vaNil := ⟨fun {ok Γ env ah N X k} o e kk l x => .okI x (Rs.nil (ok := ok) (ah := ah)) kk⟩
theorem le_acons {c c' : Nat} {m : EM D} {p : VE U} {r : EM (List D)} {pr : VE (List U)} (h : LE K RU c m p) (h' : LE K RUs c' r pr) : LE K RUs (sq c c') (aCons m r) (vaCons p pr) :=
  le_2 (f := fun (x : D) (xs : List D) ah => Res.ok (x :: xs) ah) (pf := fun u us _ k => k (u :: us)) h h' ⟨fun o q q' kk x => .okI x (Rs.cons q q') kk⟩
def vTup (p : VE (List U)) : VE U := v1 p fun us _ k => us.length ≤ line ∧ k (.tup us)
theorem le_tup {c : Nat} {m : EM (List D)} {p : VE (List U)} (h : LE K RUs c m p) : LE K RU (sq c 0) (eTup m) (vTup p) := le_1 h ⟨fun {ok ah N X k a b} o q kk l x => by
  rw [if_pos (by rw [← Rs.len q]; exact x.1)]
  exact .okI x.2 (show R ok ah (.tup a) (.tup b) by simp only [R]; exact ⟨b, rfl, q⟩) kk⟩
def vLst (p : VE (List U)) : VE (List U) := v1 p fun us _ k => us.length ≤ line ∧ k us
theorem le_lst {c : Nat} {m : EM (List D)} {p : VE (List U)} (h : LE K RUs c m p) : LE K RUs (sq c 0) (lLst m) (vLst p) := le_1 h ⟨fun {ok ah N X k a b} o q kk l x => by
  rw [if_pos (by rw [← Rs.len q]; exact x.1)]
  exact .okI x.2 q kk⟩
def vNew (p : VE (List U)) : VE U := v1 p fun us _ k => k (.lst us)
theorem le_new {c : Nat} {m : EM (List D)} {p : VE (List U)} (h : LE K RUs c m p) : LE K RU (sq c 0) (eNew m) (vNew p) := le_1 h ⟨fun {ok ah N X k a b} o q kk l x => by
  refine .newI x ?_ kk
  show R ok _ (.lst a) (.ref _)
  simp only [R]
  exact ⟨ah.length, b, rfl, o.fresh _ (Nat.le_refl _), by simp, Rs.grow q o Grow.app⟩⟩
def vB (p : VE Bool) : VE U := fun Γ X k => p Γ X fun b => k (.bl b)
theorem le_B {c : Nat} {m : EM Bool} {p : VE Bool} (h : LE K (REq Bool) c m p) : LE K RU (sq c 0) (eB m) (vB p) :=
  le_1 (f := fun b ah => Res.ok (D.bl b) ah) (pf := fun b _ k => k (U.bl b)) (Q' := RU) (c' := 0) h ⟨fun {ok ah N X k a b} o q kk l x => .okI x (by cases q; show R ok ah _ _; simp only [R]) kk⟩
theorem PR.ite {ok : Nat → Prop} {ah : AH} {N : Nat} {Q : Rl α β} {X : ExK} {k : α → Prop} {a b : Res β} {t : Bool} {x y : Prop} (h : if t = true then x else y) (ha : x → PR K ok ah N Q X k a) (hb : y → PR K ok ah N Q X k b) : PR K ok ah N Q X k (if t = true then a else b) := by
  cases t with
  | true => exact ha h
  | false => exact hb h
def vAnd (a b : VE Bool) : VE Bool := fun Γ X k => a Γ X fun t => if t = true then b Γ X k else k false
def vOr (a b : VE Bool) : VE Bool := fun Γ X k => a Γ X fun t => if t = true then k true else b Γ X k
def vNot (a : VE Bool) : VE Bool := fun Γ X k => a Γ X fun t => k (!t)
def vYes : VE Bool := fun _ _ k => k true
theorem le_yes : LE K (REq Bool) 0 bYes vYes := ⟨fun o e kk l x => .okI x rfl kk⟩
theorem le_or {c c' : Nat} {m m' : EM Bool} {p p' : VE Bool} (h : LE K (REq Bool) c m p) (h' : LE K (REq Bool) c' m' p') : LE K (REq Bool) (sq c c') (bOr m m') (vOr p p') := ⟨fun {ok Γ env ah N X k} o e kk l x => by
  have s := cb_sq c c'
  refine PR.bind (h.to o e kk (by omega) x) (by omega) fun a b ah' ka q g k2 => ?_
  cases q
  exact PR.ite ka (fun z => .okI z rfl (K.mono k2 (by omega))) fun z => (h'.to (o.grow g) (e.grow o g) k2 (by omega) z).le (by omega)⟩
theorem le_not {c : Nat} {m : EM Bool} {p : VE Bool} (h : LE K (REq Bool) c m p) : LE K (REq Bool) (sq c 0) (bNot m) (vNot p) :=
  le_1 (f := fun b ah => Res.ok (!b) ah) (pf := fun b _ k => k (!b)) h ⟨fun {ok ah N X k a b} o q kk l x => .okI x (by cases q; rfl) kk⟩
def uP : Nat → U → Option PyData
  | 0, _ => none
  | f + 1, u => match u with
    | .non => some .none
    | .bl b => some (.bool b)
    | .int i => some (.int i)
    | .str x => some (.str x)
    | .tup us => (optAll (uP f) us).map .tuple
    | .lst us => (optAll (uP f) us).map .list
    | .dK ks us => (optAll (uP f) us).map fun vs => .dict ((ks.map keyP).zip vs)
    | _ => none
theorem optAll_uP {ok : Nat → Prop} {ah : AH} {f : Nat} (h : ∀ (u : U) (d : D) (p : PyData), R ok ah u d → uP f u = some p → toP ah f d = some p) : ∀ (us : List U) (ds : List D) (ps : List PyData), Rs ok ah us ds → optAll (uP f) us = some ps → optAll (toP ah f) ds = some ps
  | [], _, _, r, e => by simp only [Rs] at r; subst r; exact e
  | u :: us, _, ps, r, e => by
    simp only [Rs] at r
    obtain ⟨d, es, rfl, q, r⟩ := r
    unfold optAll at e ⊢
    split at e
    · rename_i b bs h1 h2
      rw [h u d _ q h1, optAll_uP h us es _ r h2]
      exact e
    · cases e
theorem uP_toP {ok : Nat → Prop} {ah : AH} : ∀ (f : Nat) (u : U) (d : D) (p : PyData), R ok ah u d → uP f u = some p → toP ah f d = some p
  | 0, _, _, _, _, e => by simp [uP] at e
  | f + 1, u, d, p, r, e => by
    have ih := optAll_uP (uP_toP (ok := ok) (ah := ah) f)
    unfold uP at e
    split at e
    · simp only [R] at r; subst r; exact e
    · simp only [R] at r; subst r; exact e
    · simp only [R] at r; subst r; exact e
    · simp only [R] at r; subst r; exact e
    · rename_i us
      simp only [R] at r
      obtain ⟨ds, rfl, r⟩ := r
      rw [Option.map_eq_some_iff] at e
      obtain ⟨ps, e1, e2⟩ := e
      unfold toP
      simp only
      rw [ih us ds ps r e1]
      exact congrArg some e2
    · rename_i us
      simp only [R] at r
      obtain ⟨n, ds, rfl, _, h, r⟩ := r
      rw [Option.map_eq_some_iff] at e
      obtain ⟨ps, e1, e2⟩ := e
      unfold toP
      simp only [h]
      rw [ih us ds ps r e1]
      exact congrArg some e2
    · rename_i ks us
      simp only [R] at r
      obtain ⟨n, ds, rfl, _, h, z, r⟩ := r
      rw [Option.map_eq_some_iff] at e
      obtain ⟨ps, e1, e2⟩ := e
      unfold toP
      simp only [h]
      rw [ih us _ ps r e1, ← e2, ← z]
      simp [Function.comp_def]
    · cases e
def vTruth : U → ExK → (Bool → Prop) → Prop
  | .non, _, k => k false
  | .bl b, _, k => k b
  | .int i, _, k => k (i != 0)
  | .str x, _, k => x.length ≤ line ∧ k ((x.length : Int) != 0)
  | .tup us, _, k => k (!us.isEmpty)
  | .lst us, _, k => k (!us.isEmpty)
  | .dK ks _, _, k => k (!ks.isEmpty)
  | _, _, _ => False
theorem empty_of {α β : Type} {xs : List α} {ys : List β} (h : xs.length = ys.length) : xs.isEmpty = ys.isEmpty := by
  cases xs <;> cases ys <;> simp at h ⊢
theorem lo_truth : LO1 K RU (REq Bool) 0 truth vTruth := ⟨fun {ok ah N X k a b} o q kk l x => by
  change R ok ah a b at q
  unfold vTruth at x
  split at x <;> try simp only [R] at q
  · subst q; exact .okI x rfl kk
  · subst q; exact .okI x rfl kk
  · subst q; exact .okI x rfl kk
  · subst q; unfold truth; simp only; rw [if_pos x.1]; exact .okI x.2 rfl kk
  · obtain ⟨ds, rfl, r⟩ := q
    exact .okI x (show _ = _ by rw [empty_of (Rs.len r)]) kk
  · obtain ⟨n, ds, rfl, _, h, r⟩ := q
    unfold truth
    simp only [h]
    exact .okI x (show _ = _ by rw [empty_of (Rs.len r)]) kk
  · obtain ⟨n, ds, rfl, _, h, z, r⟩ := q
    unfold truth
    simp only [h]
    exact .okI x (show _ = _ by rw [← z]; simp) kk
  · exact x.elim⟩
def vIf (c : VE Bool) (a b : VE α) : VE α := fun Γ X k => c Γ X fun t => if t = true then a Γ X k else b Γ X k
def vEAnd (a b : VE U) : VE U := fun Γ X k => a Γ X fun u => vTruth u X fun t => if t = true then b Γ X k else k u
def vEOr (a b : VE U) : VE U := fun Γ X k => a Γ X fun u => vTruth u X fun t => if t = true then k u else b Γ X k
def vENot (a : VE U) : VE U := fun Γ X k => a Γ X fun u => vTruth u X fun t => k (.bl (!t))
theorem truth_same {d : D} {ah ah' : AH} {b : Bool} (h : truth d ah = .ok b ah') : ah' = ah := by
  unfold truth at h
  repeat' split at h
  all_goals first
    | (injection h with h1 h2; exact h2.symm)
    | cases h
theorem le_eand {c c' : Nat} {m m' : EM D} {p p' : VE U} (h : LE K RU c m p) (h' : LE K RU c' m' p') : LE K RU (sq c c') (eAnd m m') (vEAnd p p') := ⟨fun {ok Γ env ah N X k} o e kk l x => by
  have s := cb_sq c c'
  refine PR.bind (h.to o e kk (by omega) x) (by omega) fun a b ah' ka q g k2 => ?_
  refine PR.bind (lo_truth.to (o.grow g) q k2 (by rw [cb_zero]; omega) ka) (by rw [cb_zero]; omega) fun a2 b2 ah2 ka2 q2 g2 k3 => ?_
  cases q2
  exact PR.ite ka2 (fun z => (h'.to ((o.grow g).grow g2) ((e.grow o g).grow (o.grow g) g2) k3 (by rw [cb_zero]; omega) z).le (by rw [cb_zero]; omega)) fun z => .okI z (R.grow q (o.grow g) g2) (K.mono k3 (by rw [cb_zero]; omega))⟩
abbrev V1o (γ : Type) := U → ExK → (γ → Prop) → Prop
abbrev V2o (γ : Type) := U → U → ExK → (γ → Prop) → Prop
def vAdd : V2o U
  | .int i, .int j, _, k => k (.int (i + j))
  | .str x, .str y, _, k => x.length + y.length ≤ line ∧ k (.str (x ++ y))
  | .tup xs, .tup ys, _, k => xs.length + ys.length ≤ line ∧ k (.tup (xs ++ ys))
  | .int i, .bl b, _, k => k (.int (i + dI b))
  | .bl b, .int j, _, k => k (.int (dI b + j))
  | .bl a, .bl b, _, k => k (.int (dI a + dI b))
  | _, _, _, _ => False
theorem lo_add : LO2 K RU RU RU oAdd vAdd := ⟨fun {ok ah N X k a b a' b'} o q q' kk x => by
  change R ok ah a b at q
  change R ok ah a' b' at q'
  unfold vAdd at x
  split at x <;> try simp only [R] at q q'
  · subst q; subst q'; exact .okI x (show R ok ah _ _ by simp only [R]) kk
  · subst q; subst q'; unfold oAdd; simp only; rw [if_pos x.1]; exact .okI x.2 (show R ok ah _ _ by simp only [R]) kk
  · obtain ⟨ds, rfl, r⟩ := q; obtain ⟨es, rfl, s⟩ := q'
    unfold oAdd; simp only; rw [if_pos (show ds.length + es.length ≤ line by rw [← r.len, ← s.len]; exact x.1)]
    exact .okI x.2 (show R ok ah _ _ by simp only [R]; exact ⟨_, rfl, r.app s⟩) kk
  · subst q; subst q'; exact .okI x (show R ok ah _ _ by simp only [R]) kk
  · subst q; subst q'; exact .okI x (show R ok ah _ _ by simp only [R]) kk
  · subst q; subst q'; exact .okI x (show R ok ah _ _ by simp only [R]) kk
  · exact x.elim⟩
def vAddA : V2o U
  | .lst xs, .lst ys, _, k => xs.length + ys.length ≤ line ∧ k (.lst (xs ++ ys))
  | x, y, X, k => vAdd x y X k
def vSub : V2o U
  | .int i, .int j, _, k => k (.int (i - j))
  | .int i, .bl b, _, k => k (.int (i - dI b))
  | .bl b, .int j, _, k => k (.int (dI b - j))
  | .bl a, .bl b, _, k => k (.int (dI a - dI b))
  | _, _, _, _ => False
def vMul : V2o U
  | .int i, .int j, _, k => mulOk i j = true ∧ k (.int (i * j))
  | .tup xs, .int n, _, k => (xs ≠ [] ∧ 0 ≤ n ∧ n ≤ 1000 ∧ xs.length ≤ 1000) ∧ k (.tup (List.replicate n.toNat xs).flatten)
  | _, _, _, _ => False
theorem lo_mulT : LO2 K RU RU RU oMulT vMul := ⟨fun {ok ah N X k a b a' b'} o q q' kk x => by
  change R ok ah a b at q
  change R ok ah a' b' at q'
  unfold vMul at x
  split at x
  · simp only [R] at q q'
    subst q; subst q'; unfold oMulT oMul; simp only; rw [if_pos x.1]; exact .okI x.2 (show R ok ah _ _ by simp only [R]) kk
  · rename_i xs n
    simp only [R] at q q'
    obtain ⟨ds, rfl, r⟩ := q
    subst q'
    obtain ⟨⟨h1, h2, h3, h4⟩, x⟩ := x
    by_cases h5 : n = 1
    · subst h5
      unfold oMulT
      simp only
      refine .okI x (show R ok ah _ _ from ?_) kk
      simp only [R]
      exact ⟨ds, rfl, by simpa using r⟩
    · by_cases h0 : n = 0
      · subst h0
        unfold oMulT
        simp only
        rw [if_pos fun z => h1 (by subst z; have := r.len; simpa using this)]
        refine .okI x (show R ok ah _ _ from ?_) kk
        simp only [R]
        exact ⟨[], rfl, by simpa using Rs.nil⟩
      have : oMulT (.tup ds) (.int n) ah = oMul (.tup ds) (.int n) ah := by
        unfold oMulT
        split
        · rename_i e; cases e; exact absurd rfl h5
        · rename_i e; cases e; exact absurd rfl h0
        · rfl
      rw [this]
      unfold oMul
      simp only
      rw [if_pos ⟨fun z => h1 (by subst z; have := r.len; simpa using this), by omega, h3, by rw [← r.len]; exact h4⟩]
      exact .okI x (show R ok ah _ _ by simp only [R]; exact ⟨_, rfl, r.rep _⟩) kk
  · exact x.elim⟩
def vMulI : V2o U
  | .int i, .int j, _, k => mulOk i j = true ∧ k (.int (i * j))
  | .tup xs, .int n, _, k => (xs ≠ [] ∧ 2 ≤ n ∧ n ≤ 1000 ∧ xs.length ≤ 1000) ∧ k (.tup (List.replicate n.toNat xs).flatten)
  | _, _, _, _ => False
def vFdiv : V2o U
  | .int i, .int j, _, k => (0 < j ∧ j.natAbs.log2 < 9000) ∧ k (.int (i / j))
  | _, _, _, _ => False
def vMod : V2o U
  | .int i, .int j, _, k => 0 < j ∧ k (.int (i % j))
  | _, _, _, _ => False
def vPow : V2o U
  | .int i, .int j, _, k => (0 ≤ j ∧ j ≤ 1000000 ∧ i.natAbs < 2 ^ 64) ∧ k (.int (i ^ j.toNat))
  | _, _, _, _ => False
def vNeg : V1o U
  | .int i, _, k => k (.int (-i))
  | _, _, _ => False
def vEq : V2o Bool
  | .int i, .int j, _, k => k (decide (i = j))
  | .str i, .str j, _, k => k (decide (i = j))
  | .bl i, .bl j, _, k => k (decide (i = j))
  | .tup [], .tup ys, _, k => k ys.isEmpty
  | .tup xs, .tup [], _, k => k xs.isEmpty
  | x, y, _, k => match uP 63 x, uP 63 y with
    | some p, some q => (SeqAt.shaped p = true ∧ SeqAt.shaped q = true) ∧ k (PyData.eqv p q)
    | _, _ => False
def vLt : V2o Bool
  | .int i, .int j, _, k => k (decide (i < j))
  | .str a, .str b, _, k => k (decide (a.cps.toList < b.cps.toList))
  | _, _, _, _ => False
def vLe : V2o Bool
  | .int i, .int j, _, k => k (decide (i ≤ j))
  | _, _, _, _ => False
def vGt : V2o Bool
  | .int i, .int j, _, k => k (decide (j < i))
  | _, _, _, _ => False
def vGe : V2o Bool
  | .int i, .int j, _, k => k (decide (j ≤ i))
  | _, _, _, _ => False
theorem optAll_len {α β : Type} {f : α → Option β} : ∀ {xs : List α} {ys : List β}, optAll f xs = some ys → ys.length = xs.length
  | [], ys, h => by unfold optAll at h; cases h; rfl
  | x :: xs, ys, h => by
    unfold optAll at h
    split at h
    · rename_i b bs h1 h2
      cases h
      simp [optAll_len h2]
    · cases h
theorem cEq_nilL (ds : List D) (ah : AH) : cEq (.tup []) (.tup ds) ah = .ok ds.isEmpty ah := by
  unfold cEq
  simp only
  split
  · rename_i b h
    unfold eqData at h
    split at h
    · rename_i p q h1 h2
      split at h
      · cases h
        unfold pd deep toP at h1 h2
        simp only [optAll, Option.map_some, Option.some.injEq] at h1
        rw [Option.map_eq_some_iff] at h2
        obtain ⟨ps, e1, rfl⟩ := h2
        subst h1
        have := optAll_len e1
        cases ps <;> cases ds <;> simp [PyData.eqv, PyData.eqvAll] at this ⊢
      · cases h
    · cases h
  · simp [eqLen]
theorem cEq_nilR (ds : List D) (ah : AH) : cEq (.tup ds) (.tup []) ah = .ok ds.isEmpty ah := by
  unfold cEq
  simp only
  split
  · rename_i b h
    unfold eqData at h
    split at h
    · rename_i p q h1 h2
      split at h
      · cases h
        unfold pd deep toP at h1 h2
        simp only [optAll, Option.map_some, Option.some.injEq] at h2
        rw [Option.map_eq_some_iff] at h1
        obtain ⟨ps, e1, rfl⟩ := h1
        subst h2
        have := optAll_len e1
        cases ps <;> cases ds <;> simp [PyData.eqv, PyData.eqvAll] at this ⊢
      · cases h
    · cases h
  · simp [eqLen]
theorem lo_eq : LO2 K RU RU (REq Bool) cEq vEq := ⟨fun {ok ah N X k a b a' b'} o q q' kk x => by
  change R ok ah a b at q
  change R ok ah a' b' at q'
  unfold vEq at x
  split at x
  · simp only [R] at q q'; subst q; subst q'; exact .okI x rfl kk
  · simp only [R] at q q'; subst q; subst q'; exact .okI x rfl kk
  · simp only [R] at q q'; subst q; subst q'; exact .okI x rfl kk
  · simp only [R] at q q'
    obtain ⟨ds, rfl, r⟩ := q; obtain ⟨es, rfl, s⟩ := q'
    simp only [Rs] at r
    subst r
    rw [cEq_nilL]
    exact .okI x (show _ = _ by rw [empty_of s.len]) kk
  · simp only [R] at q q'
    obtain ⟨ds, rfl, r⟩ := q; obtain ⟨es, rfl, s⟩ := q'
    simp only [Rs] at s
    subst s
    rw [cEq_nilR]
    exact .okI x (show _ = _ by rw [empty_of r.len]) kk
  · rename_i h1 h2 h3 h4 h5
    split at x
    · rename_i p p' e1 e2
      have d1 := uP_toP _ _ _ _ q e1
      have d2 := uP_toP _ _ _ _ q' e2
      have : eqData ah b b' = some (PyData.eqv p p') := by
        unfold eqData pd deep
        rw [d1, d2]
        simp only
        rw [if_pos x.1]
      have : cEq b b' ah = .ok (PyData.eqv p p') ah := by
        unfold cEq
        split
        · rename_i i j
          unfold eqData at this
          have e3 : PyData.int i = p := by unfold toP at d1; exact Option.some.inj d1
          have e4 : PyData.int j = p' := by unfold toP at d2; exact Option.some.inj d2
          subst e3; subst e4
          simp only [PyData.eqv]
          rfl
        · rename_i i j
          have e3 : PyData.str i = p := by unfold toP at d1; exact Option.some.inj d1
          have e4 : PyData.str j = p' := by unfold toP at d2; exact Option.some.inj d2
          subst e3; subst e4
          simp only [PyData.eqv]
          congr 1
        · rename_i i j
          have e3 : PyData.bool i = p := by unfold toP at d1; exact Option.some.inj d1
          have e4 : PyData.bool j = p' := by unfold toP at d2; exact Option.some.inj d2
          subst e3; subst e4
          simp only [PyData.eqv]
          congr 1
        · rw [this]
      rw [this]
      exact .okI x.2 rfl kk
    · exact x.elim⟩
def vNe : V2o Bool := fun a b X k => vEq a b X fun t => k (!t)
theorem lo_ne : LO2 K RU RU (REq Bool) cNe vNe := ⟨fun {ok ah N X k a b a' b'} o q q' kk x =>
  PR.bind (lo_eq.to o q q' kk x) (Nat.le_refl _) fun a b ah' ka e g kk' => by cases e; exact .okI ka rfl kk'⟩
end
end HV
namespace HV
open PySem PySem.Spec PyProof.Rows L2 HA
section
variable {K : Dks} {α β γ δ α' β' γ' δ' : Type}
def vChain (a b c : VE U) (f g : V2o Bool) : VE Bool := fun Γ X k => a Γ X fun x => b Γ X fun y => f x y X fun t => if t = true then c Γ X fun z => g y z X k else k false
def uKey : U → Option Key
  | .int i => some (.inl i)
  | .str x => some (.inr x)
  | _ => none
theorem uKey_d {ok : Nat → Prop} {ah : AH} {u : U} {d : D} {kk : Key} (h : R ok ah u d) (e : uKey u = some kk) : dKey d = some kk := by
  unfold uKey at e
  split at e
  · simp only [R] at h; subst h; exact e
  · simp only [R] at h; subst h; exact e
  · cases e
def uIn (x : U) (us : List U) (k : Bool → Prop) : Prop := match uP 63 x, optAll (uP 62) us with
  | some p, some ps => (SeqAt.shaped p = true ∧ PyData.canLayAll0 ps = true) ∧ k (ps.any fun z => PyData.eqv z p)
  | _, _ => False
theorem uIn_d {ok : Nat → Prop} {ah : AH} {u : U} {us : List U} {d : D} {ds : List D} {k : Bool → Prop} (h : R ok ah u d) (r : Rs ok ah us ds) (x : uIn u us k) : ∃ b, inData ah d ds = some b ∧ k b := by
  unfold uIn at x
  split at x
  · rename_i p ps h1 h2
    refine ⟨_, ?_, x.2⟩
    unfold inData pd deep
    rw [uP_toP _ _ _ _ h h1, optAll_uP (uP_toP (ok := ok) (ah := ah) 62) us ds ps r h2]
    simp only
    rw [if_pos x.1]
  · exact x.elim
def vIn : V2o Bool
  | .str a, .str b, _, k => k (strIn a b)
  | x, .tup us, _, k => uIn x us k
  | x, .lst us, _, k => uIn x us k
  | x, .dK ks us, _, k => match uKey x with
    | some kk => k (ks.any fun z => decide (z = kk))
    | none => False
  | _, _, _, _ => False
theorem lo_in : LO2 K RU RU (REq Bool) cIn vIn := ⟨fun {ok ah N X k a b a' b'} o q q' kk x => by
  change R ok ah a b at q
  change R ok ah a' b' at q'
  unfold vIn at x
  split at x
  · simp only [R] at q q'; subst q; subst q'; exact .okI x rfl kk
  · simp only [R] at q'
    obtain ⟨es, rfl, s⟩ := q'
    obtain ⟨t, h1, h2⟩ := uIn_d q s x
    unfold cIn
    simp only [h1]
    exact .okI h2 rfl kk
  · simp only [R] at q'
    obtain ⟨n, es, rfl, _, h, s⟩ := q'
    obtain ⟨t, h1, h2⟩ := uIn_d q s x
    unfold cIn
    simp only [h, h1]
    exact .okI h2 rfl kk
  · simp only [R] at q'
    obtain ⟨n, es, rfl, _, h, z, s⟩ := q'
    split at x
    · rename_i k1 hk
      unfold cIn
      simp only [h, uKey_d q hk]
      exact .okI x (show _ = _ by rw [← z, List.any_map]; rfl) kk
    · exact x.elim
  · exact x.elim⟩
def vNotIn : V2o Bool := fun a b X k => vIn a b X fun t => k (!t)
theorem lo_notIn : LO2 K RU RU (REq Bool) cNotIn vNotIn := ⟨fun {ok ah N X k a b a' b'} o q q' kk x =>
  PR.bind (lo_in.to o q q' kk x) (Nat.le_refl _) fun a b ah' ka e g kk' => by cases e; exact .okI ka rfl kk'⟩
def uNon : U → Bool
  | .non => true
  | .cst w => decide (w = .non)
  | _ => false
def vIs : V2o Bool
  | .bl a, .bl b, _, k => k (decide (a = b))
  | x, .non, _, k => k (uNon x)
  | _, _, _, _ => False
def vIsNot : V2o Bool := fun a b X k => vIs a b X fun t => k (!t)
def vListOf : V1o (List U)
  | .lst us, _, k => k us
  | _, _, _ => False
theorem lo_listOf : LO1 K RU RUs 0 HA.listOf vListOf := ⟨fun {ok ah N X k a b} o q kk l x => by
  change R ok ah a b at q
  unfold vListOf at x
  split at x
  · simp only [R] at q
    obtain ⟨n, ds, rfl, _, h, r⟩ := q
    unfold HA.listOf HA.listAt
    simp only [h]
    exact .okI x r kk
  · exact x.elim⟩
def vSeqOf : V1o (List U)
  | .lst us, _, k => k us
  | .tup us, _, k => k us
  | _, _, _ => False
def vLen : V1o U
  | .str z, _, k => z.length ≤ line ∧ k (.int z.length)
  | .tup us, _, k => k (.int us.length)
  | .lst us, _, k => k (.int us.length)
  | .dK ks _, _, k => k (.int ks.length)
  | _, _, _ => False
def vLenA : List U → ExK → (U → Prop) → Prop
  | [u], X, k => vLen u X k
  | _, _, _ => False
theorem lo_len : LO1 K RUs RU 0 oLenA vLenA := ⟨fun {ok ah N X k a b} o q kk l x => by
  change Rs ok ah a b at q
  unfold vLenA at x
  split at x
  · rename_i u
    simp only [Rs] at q
    obtain ⟨d, es, rfl, q, rfl⟩ := q
    unfold oLenA
    simp only
    unfold vLen at x
    unfold oLen
    split at x
    · simp only [R] at q; subst q; simp only; rw [if_pos x.1]; exact .okI x.2 (show R ok ah _ _ by simp only [R]) kk
    · simp only [R] at q; obtain ⟨ds, rfl, r⟩ := q; exact .okI x (show R ok ah _ _ by simp only [R]; rw [r.len]) kk
    · simp only [R] at q; obtain ⟨n, ds, rfl, _, h, r⟩ := q; simp only [h]; exact .okI x (show R ok ah _ _ by simp only [R]; rw [r.len]) kk
    · simp only [R] at q; obtain ⟨n, ds, rfl, _, h, z, r⟩ := q; simp only [h]; exact .okI x (show R ok ah _ _ by simp only [R]; rw [← z]; simp) kk
    · exact x.elim
  · exact x.elim⟩
def uName : U → Option String
  | .non => some "NoneType"
  | .bl _ => some "bool"
  | .int _ => some "int"
  | .str _ => some "str"
  | .tup _ => some "tuple"
  | .lst _ => some "list"
  | .dK _ _ => some "dict"
  | .dT _ _ => some "dict"
  | _ => none
theorem uName_d {ok : Nat → Prop} {ah : AH} {u : U} {d : D} {a : String} (q : R ok ah u d) (h : uName u = some a) : tyName d ah = some a := by
  unfold uName at h
  unfold tyName
  split at h <;> (try simp only [R] at q) <;> first | (subst q; exact h) | (obtain ⟨_, rfl, _⟩ := q; exact h) | (obtain ⟨_, _, rfl, _, e, _⟩ := q; simp only [e]; exact h) | cases h
def uTys : List U → Option (List String)
  | [] => some []
  | .cst (.ty T) :: r => (uTys r).map (T :: ·)
  | _ => none
theorem uTys_d {ok : Nat → Prop} {ah : AH} : ∀ {us : List U} {ds : List D} {Ts : List String}, Rs ok ah us ds → uTys us = some Ts → tyArgs ds = some Ts
  | [], ds, Ts, r, h => by
    simp only [Rs] at r
    subst r
    exact h
  | u :: us, ds, Ts, r, h => by
    unfold uTys at h
    split at h
    · rename_i e; cases e
    · rename_i T r' e
      cases e
      rw [Option.map_eq_some_iff] at h
      obtain ⟨Ts', h1, rfl⟩ := h
      simp only [Rs, R] at r
      obtain ⟨d, es, rfl, rfl, r2⟩ := r
      simp only [tyArgs, uTys_d r2 h1, Option.map_some]
    · cases h
def vIsi : List U → ExK → (U → Prop) → Prop
  | [u, .cst (.ty T)], _, k => match uName u with
    | some a => T ∈ tyTable ∧ k (.bl (tyIs a T))
    | none => False
  | [u, .tup ts], _, k => match uName u, uTys ts with
    | some a, some Ts => (Ts.all fun T => decide (T ∈ tyTable)) = true ∧ k (.bl (Ts.any (tyIs a)))
    | _, _ => False
  | _, _, _ => False
theorem lo_isi : LO1 K RUs RU 0 oIsi vIsi := ⟨fun {ok ah N X k a b} o q kk l x => by
  change Rs ok ah a b at q
  unfold vIsi at x
  split at x
  · rename_i u T
    simp only [Rs, R] at q
    obtain ⟨d, es, rfl, q, d2, es2, rfl, rfl, rfl⟩ := q
    split at x
    · rename_i a h
      unfold oIsi
      simp only [uName_d q h]
      rw [if_pos x.1]
      exact .okI x.2 (show R ok ah _ _ by simp only [R]) kk
    · exact x.elim
  · rename_i u ts
    simp only [Rs, R] at q
    obtain ⟨d, es, rfl, q, d2, es2, rfl, ⟨ds, rfl, q2⟩, rfl⟩ := q
    split at x
    · rename_i a Ts h h2
      unfold oIsi
      simp only [uName_d q h, uTys_d q2 h2]
      rw [if_pos x.1]
      exact .okI x.2 (show R ok ah _ _ by simp only [R]) kk
    · exact x.elim
  · exact x.elim⟩
def ShowOk (p : PyData) : Prop := p.showable = true ∧ p.shown.length ≤ line ∧ p.depth ≤ 63
def vRepr : List U → ExK → (U → Prop) → Prop
  | [u], _, k => match uP 63 u with
    | some p => ShowOk p ∧ k (.str p.shown)
    | none => False
  | _, _, _ => False
theorem lo_repr : LO1 K RUs RU 0 oRepr vRepr := ⟨fun {ok ah N X k a b} o q kk l x => by
  change Rs ok ah a b at q
  unfold vRepr at x
  split at x
  · simp only [Rs, R] at q
    obtain ⟨d, es, rfl, q, rfl⟩ := q
    split at x
    · rename_i p h
      unfold oRepr pd deep
      simp only [uP_toP _ _ _ _ q h]
      rw [if_pos (show p.showable = true ∧ p.shown.length ≤ line ∧ p.depth ≤ 63 from x.1)]
      exact .okI x.2 (show R ok ah _ _ by simp only [R]) kk
    · exact x.elim
  · exact x.elim⟩
def vLRepr : List U → ExK → (U → Prop) → Prop := fun us _ k => match optAll (uP 62) us with
  | some ps => ShowOk (.list ps) ∧ k (.str (PyData.shown (.list ps)))
  | none => False
theorem lo_lrepr : LO1 K RUs RU 0 lRepr vLRepr := ⟨fun {ok ah N X k a b} o q kk l x => by
  change Rs ok ah a b at q
  unfold vLRepr at x
  split at x
  · rename_i ps h
    unfold lRepr
    rw [optAll_uP (uP_toP (ok := ok) (ah := ah) 62) a b ps q h]
    simp only
    rw [if_pos (show (PyData.list ps).showable = true ∧ (PyData.list ps).shown.length ≤ line ∧ (PyData.list ps).depth ≤ 63 from x.1)]
    exact .okI x.2 (show R ok ah _ _ by simp only [R]) kk
  · exact x.elim⟩
def vStr : List U → ExK → (U → Prop) → Prop
  | [.int i], _, k => i.natAbs.log2 < 1920 ∧ k (.str (toString i))
  | [.bl b], _, k => k (.str (if b then "True" else "False"))
  | [.str x], _, k => k (.str x)
  | [.non], _, k => k (.str "None")
  | _, _, _ => False
def vInt : List U → ExK → (U → Prop) → Prop
  | [.int i], _, k => k (.int i)
  | [.bl b], _, k => k (.int (if b then 1 else 0))
  | _, _, _ => False
def vMin : List U → ExK → (U → Prop) → Prop
  | [.int i, .int j], _, k => k (.int (if j < i then j else i))
  | _, _, _ => False
def vMax : List U → ExK → (U → Prop) → Prop
  | [.int i, .int j], _, k => k (.int (if j > i then j else i))
  | _, _, _ => False
def uInt : U → Option Int
  | .int i => some i
  | _ => none
def uBool : U → Option Bool
  | .bl b => some b
  | _ => none
theorem optAll_Rs {γ : Type} {ok : Nat → Prop} {ah : AH} {f : U → Option γ} {g : D → Option γ} (h : ∀ u d z, R ok ah u d → f u = some z → g d = some z) : ∀ (us : List U) (ds : List D) (zs : List γ), Rs ok ah us ds → optAll f us = some zs → optAll g ds = some zs
  | [], _, _, r, e => by simp only [Rs] at r; subst r; exact e
  | u :: us, _, ps, r, e => by
    simp only [Rs] at r
    obtain ⟨d, es, rfl, q, r⟩ := r
    unfold optAll at e ⊢
    split at e
    · rename_i b bs h1 h2
      rw [h u d _ q h1, optAll_Rs h us es _ r h2]
      exact e
    · cases e
theorem uBool_d {ok : Nat → Prop} {ah : AH} (u : U) (d : D) (z : Bool) (r : R ok ah u d) (e : uBool u = some z) : dBool d = some z := by
  unfold uBool at e
  split at e
  · simp only [R] at r; subst r; exact e
  · cases e
def vSum (us : List U) (_ : ExK) (k : U → Prop) : Prop := match optAll uInt us with
  | some ns => k (.int ns.sum)
  | none => False
def vAll (us : List U) (_ : ExK) (k : U → Prop) : Prop := match optAll uBool us with
  | some ns => k (.bl (ns.all id))
  | none => False
def vAny (us : List U) (_ : ExK) (k : U → Prop) : Prop := match optAll uBool us with
  | some ns => k (.bl (ns.any id))
  | none => False
theorem lo_all : LO1 K RUs RU 0 sAll vAll := ⟨fun {ok ah N X k a b} o q kk l x => by
  change Rs ok ah a b at q
  unfold vAll at x
  split at x
  · rename_i ns h
    unfold sAll
    rw [optAll_Rs uBool_d _ _ _ q h]
    exact .okI x (show R ok ah _ _ by simp only [R]) kk
  · exact x.elim⟩
def vTupOf (us : List U) (_ : ExK) (k : U → Prop) : Prop := k (.tup us)
def vId (us : List U) (_ : ExK) (k : List U → Prop) : Prop := k us
def vRevL (us : List U) (_ : ExK) (k : List U → Prop) : Prop := k us.reverse
theorem lo_revL : LO1 K RUs RUs 0 lRevL vRevL := ⟨fun {ok ah N X k a b} o q kk l x => .okI x (Rs.rev q) kk⟩
def vRevT : V1o U
  | .tup us, _, k => k (.tup us.reverse)
  | _, _, _ => False
theorem ixD_Rs {ok : Nat → Prop} {ah : AH} {us : List U} {ds : List D} {i : Int} {u : U} (r : Rs ok ah us ds) (h : ixD us i = some u) : ∃ d, ixD ds i = some d ∧ R ok ah u d := by
  unfold ixD at h ⊢
  rw [← r.len]
  cases z : ixN us.length i with
  | none => rw [z] at h; cases h
  | some j => rw [z] at h; exact r.get h
def vIx : V2o U
  | .tup us, .int i, _, k => match ixD us i with
    | some u => k u
    | none => False
  | .lst us, .int i, _, k => match ixD us i with
    | some u => k u
    | none => False
  | .str z, .int i, _, k => z.length ≤ line ∧ match ixD z.cps.toList i with
    | some c => k (.str ⟨#[c]⟩)
    | none => False
  | _, _, _, _ => False
theorem lo_ix : LO2 K RU RU RU oIx vIx := ⟨fun {ok ah N X k a b a' b'} o q q' kk x => by
  change R ok ah a b at q
  change R ok ah a' b' at q'
  unfold vIx at x
  split at x
  · simp only [R] at q q'
    obtain ⟨ds, rfl, r⟩ := q; subst q'
    split at x
    · rename_i u h
      obtain ⟨d, h1, h2⟩ := ixD_Rs r h
      unfold oIx
      simp only [h1]
      exact .okI x h2 kk
    · exact x.elim
  · simp only [R] at q q'
    obtain ⟨n, ds, rfl, _, e, r⟩ := q; subst q'
    split at x
    · rename_i u h
      obtain ⟨d, h1, h2⟩ := ixD_Rs r h
      unfold oIx
      simp only [e, h1]
      exact .okI x h2 kk
    · exact x.elim
  · simp only [R] at q q'
    subst q; subst q'
    obtain ⟨x1, x⟩ := x
    split at x
    · rename_i c h
      unfold oIx
      simp only [h]
      rw [if_pos x1]
      exact .okI x (show R ok ah _ _ by simp only [R]) kk
    · exact x.elim
  · exact x.elim⟩
def vLIx (us : List U) (d : U) (_ : ExK) (k : U → Prop) : Prop := match d with
  | .int i => match ixD us i with
    | some u => k u
    | none => False
  | _ => False
theorem Rs.cut {ok : Nat → Prop} {ah : AH} {us : List U} {ds : List D} (r : Rs ok ah us ds) (lo hi : Option Int) : Rs ok ah (HA.cut us lo hi) (HA.cut ds lo hi) := by
  unfold HA.cut
  rw [← r.len]
  exact (r.drop _).take _
def vPart (m : Option (VE U)) : VE (Option Int) := match m with
  | none => fun _ _ k => k none
  | some p => fun Γ X k => p Γ X fun u => match u with
    | .int i => k (some i)
    | _ => False
def vCut (u : U) (lo hi : Option Int) (_ : ExK) (k : U → Prop) : Prop := match u with
  | .tup us => k (.tup (HA.cut us lo hi))
  | .str z => z.length ≤ line ∧ k (.str (cutS z lo hi))
  | _ => False
def vLCut (u : U) (lo hi : Option Int) (_ : ExK) (k : List U → Prop) : Prop := match u with
  | .lst us => k (HA.cut us lo hi)
  | _ => False
def RLt : Rl (List U) LT := ⟨fun ok ah us t => match t with
  | .inl ds => Rs ok ah us ds
  | .inr n => ∃ ds, ok n ∧ ah[n]? = some (.lst ds) ∧ Rs ok ah us ds, fun {ok ok' ah ah' a b} h1 h2 h => by
    cases b with
    | inl ds => exact Rs.mono h1 h2 _ _ h
    | inr n => obtain ⟨ds, o, e, r⟩ := h; exact ⟨ds, h1 n o, h2 n _ o e, Rs.mono h1 h2 _ _ r⟩⟩
theorem le_tnew {c : Nat} {m : EM (List D)} {p : VE (List U)} (h : LE K RUs c m p) : LE K RLt (sq c 0) (tNew m) (v1 p vId) := le_1 h ⟨fun {ok ah N X k a b} o q kk l x => .okI x q kk⟩
theorem le_tour {c : Nat} {m : EM D} {p : VE U} (h : LE K RU c m p) : LE K RLt (sq c 0) (tOur m) (v1 p vListOf) := le_1 h ⟨fun {ok ah N X k a b} o q kk l x => by
  change R ok ah a b at q
  unfold vListOf at x
  split at x
  · simp only [R] at q
    obtain ⟨n, ds, rfl, on, h, r⟩ := q
    exact .okI x ⟨ds, on, h, r⟩ kk
  · exact x.elim⟩
theorem ltOf_R {ok : Nat → Prop} {ah : AH} {us : List U} {t : LT} (h : RLt.r ok ah us t) : ∃ ds, ltOf t ah = some ds ∧ Rs ok ah us ds := by
  cases t with
  | inl ds => exact ⟨ds, rfl, h⟩
  | inr n => obtain ⟨ds, o, e, r⟩ := h; exact ⟨ds, by unfold ltOf; simp only [e], r⟩
def vCat (xs ys : List U) (_ : ExK) (k : List U → Prop) : Prop := xs.length + ys.length ≤ line ∧ k (xs ++ ys)
theorem lo_cat : LO2 K RLt RLt RUs lCat vCat := ⟨fun {ok ah N X k a b a' b'} o q q' kk x => by
  obtain ⟨ds, h, r⟩ := ltOf_R q
  obtain ⟨es, h', s⟩ := ltOf_R q'
  unfold lCat
  rw [h, h']
  simp only
  rw [if_pos (by rw [← r.len, ← s.len]; exact x.1)]
  exact .okI x.2 (Rs.app r s) kk⟩
def vRep (xs : List U) (y : U) (_ : ExK) (k : List U → Prop) : Prop := match y with
  | .int n => (-(2 ^ 63) ≤ n ∧ n < 2 ^ 63 ∧ xs.length * n.toNat ≤ line) ∧ k (List.replicate n.toNat xs).flatten
  | _ => False
theorem lo_rep : LO2 K RLt RU RUs lRep vRep := ⟨fun {ok ah N X k a b a' b'} o q q' kk x => by
  obtain ⟨ds, h, r⟩ := ltOf_R q
  change R ok ah a' b' at q'
  unfold vRep at x
  split at x
  · simp only [R] at q'
    subst q'
    unfold lRep
    rw [h]
    simp only
    rw [if_pos (by rw [← r.len]; exact x.1)]
    exact .okI x.2 (Rs.rep r _) kk
  · exact x.elim⟩
def vNil (neg : Bool) (us : List U) (_ : ExK) (k : Bool → Prop) : Prop := k (if us.isEmpty = true then !neg else neg)
theorem lo_nil (neg : Bool) : LO1 K RUs (REq Bool) 0 (lNil neg) (vNil neg) := ⟨fun {ok ah N X k a b} o q kk l x => by
  change Rs ok ah a b at q
  unfold vNil at x
  unfold lNil
  have e : b.isEmpty = a.isEmpty := by
    have := q.len
    cases a <;> cases b <;> simp at this ⊢
  rw [e]
  exact .okI x rfl kk⟩
theorem le_nil {neg : Bool} {c : Nat} {m : EM (List D)} {p : VE (List U)} (h : LE K RUs c m p) : LE K (REq Bool) (sq c 0) (bNil neg m) (v1 p (vNil neg)) := le_1 h (lo_nil neg)
def vRange (i j : Int) (k : List U → Prop) : Prop := (-(2 ^ 62) ≤ i ∧ i < 2 ^ 62 ∧ -(2 ^ 62) ≤ j ∧ j < 2 ^ 62 ∧ (j - i).toNat ≤ 2 ^ 24) ∧ k ((List.range (j - i).toNat).map fun (n : Nat) => U.int (i + n))
def vRange1 : V1o (List U)
  | .int j, _, k => vRange 0 j k
  | _, _, _ => False
def vRange2 : V2o (List U)
  | .int i, .int j, _, k => vRange i j k
  | _, _, _, _ => False
theorem Rs.range {ok : Nat → Prop} {ah : AH} (i : Int) (n : Nat) : Rs ok ah ((List.range n).map fun (n : Nat) => U.int (i + n)) ((List.range n).map fun (n : Nat) => D.int (i + n)) := by
  have := Rs.of_ints (ok := ok) (ah := ah) ((List.range n).map fun (n : Nat) => i + (n : Int))
  simpa [Function.comp_def] using this
theorem lo_lrange1 : LO1 K RU RUs 0 lRange1 vRange1 := ⟨fun {ok ah N X k a b} o q kk l x => by
  change R ok ah a b at q
  unfold vRange1 vRange at x
  split at x
  · simp only [R] at q; subst q
    unfold lRange1 lRange
    simp only
    rw [if_pos x.1]
    exact .okI x.2 (Rs.range _ _) kk
  · exact x.elim⟩
def uVal {κ : Type} [DecidableEq κ] (ks : List κ) (us : List U) (k : κ) : Option U := match ks, us with
  | k1 :: ks, u :: us => if k1 = k then some u else uVal ks us k
  | _, _ => none
theorem uVal_d {κ : Type} [DecidableEq κ] {ok : Nat → Prop} {ah : AH} {k : κ} {u : U} : ∀ (ks : List κ) (us : List U) (kvs : List (κ × D)), kvs.map (·.1) = ks → Rs ok ah us (kvs.map (·.2)) → uVal ks us k = some u → ∃ d, valD kvs k = some d ∧ R ok ah u d
  | [], us, kvs, h, r, e => by unfold uVal at e; cases e
  | k1 :: ks, [], kvs, h, r, e => by unfold uVal at e; cases e
  | k1 :: ks, u1 :: us, [], h, r, e => by simp at h
  | k1 :: ks, u1 :: us, kv :: kvs, h, r, e => by
    simp only [List.map_cons, List.cons.injEq] at h
    simp only [List.map_cons, Rs, List.cons.injEq] at r
    obtain ⟨d, es, ⟨rfl, rfl⟩, q, r⟩ := r
    unfold uVal at e
    unfold valD
    rw [List.find?_cons]
    split at e
    · rename_i h1
      cases e
      have : decide (kv.1 = k) = true := by rw [h.1, h1]; simp
      rw [this]
      exact ⟨_, rfl, q⟩
    · rename_i h1
      have : decide (kv.1 = k) = false := by rw [h.1]; simpa using h1
      rw [this]
      exact uVal_d ks us kvs h.2 r e
def vGet : V2o U
  | .dK ks us, x, _, k => match uKey x with
    | some kk => match uVal ks us kk with
      | some u => k u
      | none => False
    | none => False
  | _, _, _, _ => False
end
end HV
namespace HV
open PySem PySem.Spec PyProof.Rows L2 HA
section
variable {K : Dks} {α β γ δ α' β' γ' δ' : Type}
theorem PR.after {ok : Nat → Prop} {ah ah' : AH} {N : Nat} {Q : Rl α β} {X : ExK} {k : α → Prop} {r : Res β} (h : PR K ok ah' N Q X k r) (g : Grow ah ah') : PR K ok ah N Q X k r := by
  revert h
  unfold PR
  split
  · exact fun ⟨a, x1, x2, x3, x4⟩ => ⟨a, x1, x2, g.trans x3, x4⟩
  · exact fun ⟨a, x1, x2, x3, x4⟩ => ⟨a, x1, x2, g.trans x3, x4⟩
  · exact fun h => h
def RIt : Rl (List U) Itm := ⟨fun ok ah us t => Rs ok ah us t.items ∧ ∀ p, p ∈ t.guard → ok p.1 ∧ ah[p.1]? = some (.lst p.2), fun h1 h2 h => ⟨Rs.mono h1 h2 _ _ h.1, fun p hp => ⟨h1 _ (h.2 p hp).1, h2 _ _ (h.2 p hp).1 (h.2 p hp).2⟩⟩⟩
theorem okIn_of {t : Itm} {ah : AH} (h : ∀ p, p ∈ t.guard → ah[p.1]? = some (.lst p.2)) : t.okIn ah = true := by
  unfold Itm.okIn
  rw [List.all_eq_true]
  intro p hp
  unfold HA.listAt
  rw [h p hp]
  simp
theorem le_inew {c : Nat} {m : EM (List D)} {p : VE (List U)} (h : LE K RUs c m p) : LE K RIt (sq c 0) (iNew m) (v1 p vId) := le_1 h ⟨fun {ok ah N X k a b} o q kk l x => .okI x ⟨q, fun p hp => by cases hp⟩ kk⟩
theorem lo_ival : LO1 K RU RIt 0 iVal vSeqOf := ⟨fun {ok ah N X k a b} o q kk l x => by
  change R ok ah a b at q
  unfold vSeqOf at x
  split at x
  · simp only [R] at q
    obtain ⟨n, ds, rfl, on, h, r⟩ := q
    unfold iVal HA.listAt
    simp only [h]
    exact .okI x ⟨r, fun p hp => by simp only [List.mem_singleton] at hp; subst hp; exact ⟨on, h⟩⟩ kk
  · simp only [R] at q
    obtain ⟨ds, rfl, r⟩ := q
    exact .okI x ⟨r, fun p hp => by cases hp⟩ kk
  · exact x.elim⟩
def vIR (i j : Int) (k : List U → Prop) : Prop := (-(2 ^ 62) ≤ i ∧ i < 2 ^ 62 ∧ -(2 ^ 62) ≤ j ∧ j < 2 ^ 62) ∧ k ((List.range (j - i).toNat).map fun (n : Nat) => U.int (i + n))
def vIR1 : V1o (List U)
  | .int j, _, k => vIR 0 j k
  | _, _, _ => False
def vIR2 : V2o (List U)
  | .int i, .int j, _, k => vIR i j k
  | _, _, _, _ => False
theorem lo_irange1 : LO1 K RU RIt 0 iRange1 vIR1 := ⟨fun {ok ah N X k a b} o q kk l x => by
  change R ok ah a b at q
  unfold vIR1 vIR at x
  split at x
  · rename_i j
    simp only [R] at q; subst q
    unfold iRange1
    simp only
    rw [if_pos ⟨x.1.2.2.1, x.1.2.2.2⟩]
    refine .okI x.2 ⟨?_, fun p hp => by cases hp⟩ kk
    have := Rs.range (ok := ok) (ah := ah) 0 j.toNat
    simpa using this
  · exact x.elim⟩
abbrev VTM := U → Option (List (Nat × U))
def setU (Γ : UEnv) : List (Nat × U) → UEnv
  | [] => Γ
  | (i, u) :: r => setU (Γ.set i (some u)) r
def setD (env : HA.Env) : List (Nat × D) → HA.Env
  | [] => env
  | (i, u) :: r => setD (env.set i (some u)) r
def Rb (ok : Nat → Prop) (ah : AH) (bs : List (Nat × U)) (cs : List (Nat × D)) : Prop := bs.map (·.1) = cs.map (·.1) ∧ Rs ok ah (bs.map (·.2)) (cs.map (·.2))
theorem setD_app (env : HA.Env) : ∀ (xs ys : List (Nat × D)), setD env (xs ++ ys) = setD (setD env xs) ys
  | [], ys => rfl
  | x :: xs, ys => setD_app _ xs ys
theorem setD_len (env : HA.Env) : ∀ (xs : List (Nat × D)), (setD env xs).length = env.length
  | [] => rfl
  | x :: xs => by unfold setD; rw [setD_len _ xs, List.length_set]
theorem setU_len (env : UEnv) : ∀ (xs : List (Nat × U)), (setU env xs).length = env.length
  | [] => rfl
  | x :: xs => by unfold setU; rw [setU_len _ xs, List.length_set]
theorem setD_ne (env : HA.Env) {j : Nat} : ∀ (xs : List (Nat × D)), (∀ x ∈ xs, x.1 ≠ j) → (setD env xs)[j]? = env[j]?
  | [], _ => rfl
  | x :: xs, h => by unfold setD; rw [setD_ne _ xs fun y hy => h y (List.mem_cons_of_mem _ hy), List.getElem?_set_ne (h x List.mem_cons_self)]
theorem setU_ne (env : UEnv) {j : Nat} : ∀ (xs : List (Nat × U)), (∀ x ∈ xs, x.1 ≠ j) → (setU env xs)[j]? = env[j]?
  | [], _ => rfl
  | x :: xs, h => by unfold setU; rw [setU_ne _ xs fun y hy => h y (List.mem_cons_of_mem _ hy), List.getElem?_set_ne (h x List.mem_cons_self)]
theorem EnvR.set1 {ok : Nat → Prop} {ah : AH} {Γ : UEnv} {env : HA.Env} (h : EnvR ok ah Γ env) (i : Nat) {u : U} {d : D} (r : R ok ah u d) : EnvR ok ah (Γ.set i (some u)) (env.set i (some d)) :=
  ⟨by simp [h.len], fun j v e => by
    by_cases hj : i = j
    · subst hj
      have hl : i < Γ.length := by have := (List.getElem?_eq_some_iff.mp e).1; simpa using this
      rw [List.getElem?_set_self hl] at e
      cases e
      exact ⟨d, by rw [List.getElem?_set_self (by rw [h.len]; exact hl)], r⟩
    · rw [List.getElem?_set_ne hj] at e ⊢
      exact h.at' j v e⟩
theorem EnvR.sets {ok : Nat → Prop} {ah : AH} : ∀ {bs : List (Nat × U)} {cs : List (Nat × D)} {Γ : UEnv} {env : HA.Env}, EnvR ok ah Γ env → Rb ok ah bs cs → EnvR ok ah (setU Γ bs) (setD env cs)
  | [], [], _, _, h, _ => h
  | [], _ :: _, _, _, _, r => by have := r.1; simp at this
  | _ :: _, [], _, _, _, r => by have := r.1; simp at this
  | (i, u) :: bs, (j, d) :: cs, Γ, env, h, ⟨e, r⟩ => by
    simp only [List.map_cons, List.cons.injEq] at e
    obtain ⟨rfl, e⟩ := e
    simp only [List.map_cons, Rs, List.cons.injEq] at r
    obtain ⟨_, _, ⟨rfl, rfl⟩, q, r⟩ := r
    show EnvR ok ah (setU (Γ.set i (some u)) bs) (setD (env.set i (some _)) cs)
    exact EnvR.sets (h.set1 i q) ⟨e, r⟩
structure LTg (tm : TM) (vt : VTM) (ts : List Nat) : Prop where
  to : ∀ {ok : Nat → Prop} {ah : AH} {u : U} {d : D} {bs : List (Nat × U)} (env : HA.Env), R ok ah u d → vt u = some bs → ∃ cs, tm d env ah = some (setD env cs) ∧ Rb ok ah bs cs ∧ ∀ x ∈ bs, x.1 ∈ ts
structure LTs (tm : List D → HA.Env → AH → Option HA.Env) (vt : List U → Option (List (Nat × U))) (ts : List Nat) : Prop where
  to : ∀ {ok : Nat → Prop} {ah : AH} {us : List U} {ds : List D} {bs : List (Nat × U)} (env : HA.Env), Rs ok ah us ds → vt us = some bs → ∃ cs, tm ds env ah = some (setD env cs) ∧ Rb ok ah bs cs ∧ ∀ x ∈ bs, x.1 ∈ ts
def tSet (i : Nat) : VTM := fun u => some [(i, u)]
def tNil : List U → Option (List (Nat × U)) := fun us => match us with
  | [] => some []
  | _ => none
def tCons (t : VTM) (r : List U → Option (List (Nat × U))) : List U → Option (List (Nat × U)) := fun us => match us with
  | u :: us => (t u).bind fun a => (r us).map fun b => a ++ b
  | [] => none
def tTup (n : Nat) (r : List U → Option (List (Nat × U))) : VTM := fun u => match u with
  | .tup us => if us.length = n then r us else none
  | _ => none
theorem lt_set (i : Nat) : LTg (gSet i) (tSet i) [i] := ⟨fun {ok ah u d bs} env r e => by
  unfold tSet at e
  cases e
  exact ⟨[(i, d)], rfl, ⟨rfl, Rs.cons r Rs.nil⟩, by simp⟩⟩
theorem lt_nil : LTs gNilD tNil [] := ⟨fun {ok ah u d bs} env r e => by
  unfold tNil at e
  split at e
  · cases e
    simp only [Rs] at r
    subst r
    exact ⟨[], rfl, ⟨rfl, Rs.nil⟩, by simp⟩
  · cases e⟩
theorem lt_cons {tm : TM} {vt : VTM} {ts ts' : List Nat} {um : List D → HA.Env → AH → Option HA.Env} {vu : List U → Option (List (Nat × U))} (h : LTg tm vt ts) (h' : LTs um vu ts') : LTs (gConsD tm um) (tCons vt vu) (ts ++ ts') := ⟨fun {ok ah us ds bs} env r e => by
  unfold tCons at e
  split at e
  · rename_i u us
    rw [Option.bind_eq_some_iff] at e
    obtain ⟨a, e1, e⟩ := e
    rw [Option.map_eq_some_iff] at e
    obtain ⟨b, e2, rfl⟩ := e
    simp only [Rs] at r
    obtain ⟨d, es, rfl, q, r⟩ := r
    obtain ⟨cs, h1, h2, h3⟩ := h.to env q e1
    obtain ⟨cs', h1', h2', h3'⟩ := h'.to (setD env cs) r e2
    refine ⟨cs ++ cs', ?_, ⟨by rw [List.map_append, List.map_append, h2.1, h2'.1], by rw [List.map_append, List.map_append]; exact h2.2.app h2'.2⟩, fun x hx => ?_⟩
    · unfold gConsD
      simp only [h1, Option.bind_some, h1', setD_app]
    · rw [List.mem_append] at hx ⊢
      exact hx.imp (h3 x) (h3' x)
  · cases e⟩
theorem lt_tup {n : Nat} {ts : List Nat} {um : List D → HA.Env → AH → Option HA.Env} {vu : List U → Option (List (Nat × U))} (h : LTs um vu ts) : LTg (gTupD n um) (tTup n vu) ts := ⟨fun {ok ah u d bs} env r e => by
  unfold tTup at e
  split at e
  · split at e
    · rename_i us hl
      simp only [R] at r
      obtain ⟨ds, rfl, r⟩ := r
      obtain ⟨cs, h1, h2⟩ := h.to env r e
      refine ⟨cs, ?_, h2⟩
      unfold gTupD
      simp only
      rw [if_pos (by rw [← r.len]; exact hl), h1]
    · cases e
  · cases e⟩
def wipeU (Γ : UEnv) : List Nat → UEnv
  | [] => Γ
  | v :: vs => (wipeU Γ vs).set v none
theorem EnvR.unset {ok : Nat → Prop} {ah : AH} {Γ : UEnv} {env : HA.Env} (h : EnvR ok ah Γ env) (i : Nat) (x : Option D) : EnvR ok ah (Γ.set i none) (env.set i x) :=
  ⟨by simp [h.len], fun j v e => by
    by_cases hj : i = j
    · subst hj
      have hl : i < Γ.length := by have := (List.getElem?_eq_some_iff.mp e).1; simpa using this
      rw [List.getElem?_set_self hl] at e
      cases e
    · rw [List.getElem?_set_ne hj] at e ⊢
      exact h.at' j v e⟩
theorem EnvR.wipe {ok : Nat → Prop} {ah : AH} {Γ : UEnv} {env : HA.Env} (h : EnvR ok ah Γ env) : ∀ vs : List Nat, EnvR ok ah (wipeU Γ vs) (wipeE env vs)
  | [] => h
  | v :: vs => (EnvR.wipe h vs).unset v none
def XF : ExK := fun _ _ => False
def vLcL (vt : VTM) (pt : VE Bool) (pe : VE U) (Γ : UEnv) : List U → (List U → Prop) → Prop
  | [], k => k []
  | u :: us, k => match vt u with
    | some bs => pt (setU Γ bs) XF fun t => if t = true then pe (setU Γ bs) XF fun y => vLcL vt pt pe Γ us fun ys => k (y :: ys) else vLcL vt pt pe Γ us k
    | none => False
def vLc (pi : VE (List U)) (vt : VTM) (pt : VE Bool) (pe : VE U) (vs : List Nat) : VE (List U) := fun Γ X k => pi Γ X fun us => us.length ≤ line ∧ vLcL vt pt pe (wipeU Γ vs) us k
theorem lcLoop_V {c c' : Nat} {t : Itm} {tm : TM} {vt : VTM} {ts : List Nat} {test : EM Bool} {elt : EM D} {pt : VE Bool} {pe : VE U} {vs : List Nat} {env : HA.Env} {Γ : UEnv} {ok : Nat → Prop} {X : ExK} (hT : LTg tm vt ts) (ht : LE K (REq Bool) c test pt) (he : LE K RU c' elt pe) :
    ∀ (us : List U) (ds : List D) (ua : List U) (acc : List D) (ah : AH) (N : Nat) (k : List U → Prop), OkF ok ah → EnvR ok ah Γ env → K.at' N ah → (∀ p, p ∈ t.guard → ok p.1 ∧ ah[p.1]? = some (.lst p.2)) → N + us.length * cb (sq c c') ≤ LIM → Rs ok ah us ds → Rs ok ah ua acc → acc.length + us.length ≤ line → (vLcL vt pt pe (wipeU Γ vs) us fun ys => k (ua ++ ys)) → PR K ok ah (N + us.length * cb (sq c c')) RUs X k (lcLoop t tm test elt vs env ds acc ah)
  | [], ds, ua, acc, ah, N, k, o, e, kk, hg, l, r, ra, hl, x => by
    simp only [Rs] at r
    subst r
    unfold lcLoop
    rw [if_pos (okIn_of fun p hp => (hg p hp).2)]
    unfold vLcL at x
    rw [List.append_nil] at x
    exact .okI x ra (by simpa using kk)
  | u :: us, ds, ua, acc, ah, N, k, o, e, kk, hg, l, r, ra, hl, x => by
    simp only [Rs] at r
    obtain ⟨d, ds, rfl, q, r⟩ := r
    have s := cb_sq c c'
    rw [List.length_cons, Nat.add_mul, Nat.one_mul] at l
    rw [List.length_cons] at hl
    unfold vLcL at x
    split at x
    · rename_i bs hb
      obtain ⟨cs, h1, h2, _⟩ := hT.to (wipeE env vs) q hb
      have e1 : EnvR ok ah (setU (wipeU Γ vs) bs) (setD (wipeE env vs) cs) := (e.wipe vs).sets h2
      unfold lcLoop
      rw [if_pos ⟨okIn_of fun p hp => (hg p hp).2, by omega⟩, h1]
      simp only
      have w := ht.to o e1 kk (by omega) x
      cases z : test (setD (wipeE env vs) cs) ah with
      | stuck => rw [z] at w; exact w.elim
      | exn a f h => rw [z] at w; obtain ⟨f, y, _⟩ := w; exact y.elim
      | ok b ah1 =>
        rw [z] at w
        obtain ⟨b', kb, rfl, g, k1⟩ := w
        have o1 := o.grow g
        have hg1 : ∀ p, p ∈ t.guard → ok p.1 ∧ ah1[p.1]? = some (.lst p.2) := fun p hp => ⟨(hg p hp).1, g.sta o _ _ (hg p hp).1 (hg p hp).2⟩
        cases b' with
        | true =>
          simp only [if_true] at kb ⊢
          have w := he.to o1 (e1.grow o g) k1 (by omega) kb
          cases z : elt (setD (wipeE env vs) cs) ah1 with
          | stuck => rw [z] at w; exact w.elim
          | exn a f h => rw [z] at w; obtain ⟨f, y, _⟩ := w; exact y.elim
          | ok y ah2 =>
            rw [z] at w
            obtain ⟨y', ky, qy, g2, k2⟩ := w
            have gg := g.trans g2
            have := lcLoop_V (X := X) hT ht he us ds (ua ++ [y']) (acc ++ [y]) ah2 (N + cb c + cb c') k (o1.grow g2) (e.grow o gg) k2 (fun p hp => ⟨(hg p hp).1, gg.sta o _ _ (hg p hp).1 (hg p hp).2⟩) (by omega) (r.grow o gg) ((ra.grow o gg).app (Rs.cons qy Rs.nil)) (by rw [List.length_append, List.length_singleton]; omega) (by simpa [List.append_assoc] using ky)
            simp only
            exact PR.le (M := N + (us.length + 1) * cb (sq c c')) (by
              exact this.after gg) (by rw [Nat.add_mul, Nat.one_mul]; omega)
        | false =>
          simp only [Bool.false_eq_true, if_false] at kb ⊢
          have := lcLoop_V (X := X) hT ht he us ds ua acc ah1 (N + cb c) k o1 (e.grow o g) k1 hg1 (by omega) (r.grow o g) (ra.grow o g) (by omega) kb
          exact PR.le (M := N + (us.length + 1) * cb (sq c c')) (by
              exact this.after g) (by rw [Nat.add_mul, Nat.one_mul]; omega)
    · exact x.elim
theorem le_lc {ci c c' : Nat} {mi : EM Itm} {pi : VE (List U)} {tm : TM} {vt : VTM} {ts : List Nat} {test : EM Bool} {elt : EM D} {pt : VE Bool} {pe : VE U} {vs : List Nat} (hi : LE K RIt ci mi pi) (hT : LTg tm vt ts) (ht : LE K (REq Bool) c test pt) (he : LE K RU c' elt pe) : LE K RUs (sq ci (lp (sq c c'))) (lLc mi tm test elt vs) (vLc pi vt pt pe vs) := ⟨fun {ok Γ env ah N X k} o e kk l x => by
  have s := cb_sq ci (lp (sq c c'))
  refine PR.bind (hi.to o e kk (by omega) x) (by omega) fun us t ah1 ⟨hl, ka⟩ ⟨q, hg⟩ g k1 => ?_
  have b := cb_lp (sq c c') us.length hl
  refine (lcLoop_V hT ht he us t.items [] [] ah1 (N + cb ci) k (o.grow g) (e.grow o g) k1 hg (by omega) q Rs.nil (by simpa using hl) (by simpa using ka)).le (by omega)⟩
end
end HV
namespace HV
open PySem PySem.Spec PyProof.Rows L2 HA
structure SK where
  nx : UEnv → Prop
  rt : U → Prop
  bk : UEnv → Prop
  ct : UEnv → Prop
  ex : Str → EF → UEnv → Prop
abbrev VS := UEnv → SK → Prop
def av (ok : Nat → Prop) (env : HA.Env) (own : List Nat) : Nat → Prop := fun n => ok n ∧ ∀ i, i ∈ own → env[i]? ≠ some (some (.ref n))
structure OkB (ok : Nat → Prop) (b : Nat) : Prop where
  three : ∀ n, ok n → 3 ≤ n
  fresh : ∀ n, b ≤ n → ok n
structure StR (ok : Nat → Prop) (b : Nat) (own : List Nat) (Γ : UEnv) (env : HA.Env) (ah : AH) : Prop where
  len : env.length = Γ.length
  bl : b ≤ ah.length
  sh : ∀ (i : Nat) (u : U), i ∉ own → Γ[i]? = some (some u) → ∃ d, env[i]? = some (some d) ∧ R (av ok env own) ah u d
  ow : ∀ i, i ∈ own → ∃ n o u, env[i]? = some (some (.ref n)) ∧ b ≤ n ∧ ah[n]? = some o ∧ Γ[i]? = some (some u) ∧ OR (av ok env own) ah u o
  inj : ∀ (i j n : Nat), i ∈ own → j ∈ own → env[i]? = some (some (.ref n)) → env[j]? = some (some (.ref n)) → i = j
structure PreS (b : Nat) (own : List Nat) (env : HA.Env) (ah : AH) (own' : List Nat) (env' : HA.Env) (ah' : AH) : Prop where
  len : ah.length ≤ ah'.length
  same : ∀ n, 3 ≤ n → n < ah.length → (∀ i, i ∈ own → env[i]? ≠ some (some (.ref n))) → ah'[n]? = ah[n]?
  old : ∀ n, 3 ≤ n → n < b → ah'[n]? = ah[n]?
  refs : ∀ i n, i ∈ own' → env'[i]? = some (some (.ref n)) → n < ah.length → ∃ j, j ∈ own ∧ env[j]? = some (some (.ref n))
structure GrowB (b : Nat) (ah ah' : AH) : Prop where
  len : ah.length ≤ ah'.length
  old : ∀ n, 3 ≤ n → n < b → ah'[n]? = ah[n]?
section
variable {ok : Nat → Prop} {b : Nat} {own own' own1 : List Nat} {Γ : UEnv} {env env' env1 : HA.Env} {ah ah' ah1 : AH}
theorem PreS.trans (h : PreS b own env ah own1 env1 ah1) (k : PreS b own1 env1 ah1 own' env' ah') : PreS b own env ah own' env' ah' :=
  ⟨Nat.le_trans h.len k.len, fun n h3 hn hne => by
    rw [k.same n h3 (Nat.lt_of_lt_of_le hn h.len) fun i hi e => ?_, h.same n h3 hn hne]
    obtain ⟨j, hj, ej⟩ := h.refs i n hi e hn
    exact hne j hj ej, fun n h3 hn => (k.old n h3 hn).trans (h.old n h3 hn), fun i n hi e hn => by
    obtain ⟨j, hj, ej⟩ := k.refs i n hi e (Nat.lt_of_lt_of_le hn h.len)
    exact h.refs j n hj ej hn⟩
theorem PreS.growB (h : PreS b own env ah own' env' ah') : GrowB b ah ah' := ⟨h.len, h.old⟩
theorem PreS.ofGrow (g : Grow ah ah') (hb : b ≤ ah.length) (hs : own' ⊆ own) : PreS b own env ah own' env ah' :=
  ⟨g.len, fun n h3 hn _ => g.same n h3 hn, fun n h3 hn => g.same n h3 (by omega), fun i n hi e _ => ⟨i, hs hi, e⟩⟩
theorem GrowB.trans {a c d : AH} (h : GrowB b a c) (k : GrowB b c d) : GrowB b a d := ⟨Nat.le_trans h.len k.len, fun n h3 hn => (k.old n h3 hn).trans (h.old n h3 hn)⟩
theorem StR.okf (S : StR ok b own Γ env ah) (o : OkB ok b) : OkF ok ah := ⟨o.three, fun n hn => o.fresh n (Nat.le_trans S.bl hn)⟩
theorem StR.okav (S : StR ok b own Γ env ah) (o : OkB ok b) : OkF (av ok env own) ah := ⟨fun n h => o.three n h.1, fun n hn => ⟨o.fresh n (Nat.le_trans S.bl hn), fun i hi e => by
  obtain ⟨m, ob, u, e1, _, e2, _⟩ := S.ow i hi
  rw [e1] at e
  cases e
  have := (List.getElem?_eq_some_iff.mp e2).1
  omega⟩⟩
theorem Sta.refl {ok : Nat → Prop} {ah : AH} : Sta ok ah ah := fun _ _ _ h => h
mutual
theorem R.inb {ok : Nat → Prop} {ah : AH} : ∀ (u : U) (d : D), R ok ah u d → R (fun m => ok m ∧ m < ah.length) ah u d
  | .non, _, h => by simp only [R] at h ⊢; exact h
  | .bl b, _, h => by simp only [R] at h ⊢; exact h
  | .int b, _, h => by simp only [R] at h ⊢; exact h
  | .str b, _, h => by simp only [R] at h ⊢; exact h
  | .cst b, _, h => by simp only [R] at h ⊢; exact h
  | .glo b, _, h => by simp only [R] at h ⊢; exact h
  | .xv a e ks us, _, h => by simp only [R] at h ⊢; obtain ⟨ds, e, r⟩ := h; exact ⟨ds, e, Rs.inb us ds r⟩
  | .ref b, _, h => by simp only [R] at h ⊢; exact h
  | .tup us, _, h => by simp only [R] at h ⊢; obtain ⟨ds, e, r⟩ := h; exact ⟨ds, e, Rs.inb us ds r⟩
  | .lst us, _, h => by simp only [R] at h ⊢; obtain ⟨n, ds, e, o, q, r⟩ := h; exact ⟨n, ds, e, ⟨o, (List.getElem?_eq_some_iff.mp q).1⟩, q, Rs.inb us ds r⟩
  | .dK ks us, _, h => by simp only [R] at h ⊢; obtain ⟨n, ds, e, o, q, z, r⟩ := h; exact ⟨n, ds, e, ⟨o, (List.getElem?_eq_some_iff.mp q).1⟩, q, z, Rs.inb us _ r⟩
  | .dT ks us, _, h => by simp only [R] at h ⊢; obtain ⟨n, ds, e, o, q, z, r⟩ := h; exact ⟨n, ds, e, ⟨o, (List.getElem?_eq_some_iff.mp q).1⟩, q, z, Rs.inb us _ r⟩
  | .ins C ks us, _, h => by simp only [R] at h ⊢; obtain ⟨n, ds, e, o, q, z, r⟩ := h; exact ⟨n, ds, e, ⟨o, (List.getElem?_eq_some_iff.mp q).1⟩, q, z, Rs.inb us _ r⟩
theorem Rs.inb {ok : Nat → Prop} {ah : AH} : ∀ (us : List U) (ds : List D), Rs ok ah us ds → Rs (fun m => ok m ∧ m < ah.length) ah us ds
  | [], _, h => by simp only [Rs] at h ⊢; exact h
  | u :: us, _, h => by simp only [Rs] at h ⊢; obtain ⟨d, es, e, q, r⟩ := h; exact ⟨d, es, e, R.inb u d q, Rs.inb us es r⟩
end
theorem OR.inb {ok : Nat → Prop} {ah : AH} {u : U} {o : AObj} (h : OR ok ah u o) : OR (fun m => ok m ∧ m < ah.length) ah u o := by
  unfold OR at h ⊢
  split at h
  · exact Rs.inb _ _ h
  · exact ⟨h.1, Rs.inb _ _ h.2⟩
  · exact ⟨h.1, Rs.inb _ _ h.2⟩
  · exact ⟨h.1, h.2.1, Rs.inb _ _ h.2.2⟩
  · exact h
def eraseU : List Nat → UEnv → UEnv
  | [], Γ => Γ
  | i :: r, Γ => eraseU r (Γ.set i none)
theorem eraseU_len : ∀ (own : List Nat) (Γ : UEnv), (eraseU own Γ).length = Γ.length
  | [], _ => rfl
  | i :: r, Γ => by unfold eraseU; rw [eraseU_len r, List.length_set]
theorem eraseU_some : ∀ (own : List Nat) (Γ : UEnv) (j : Nat) (u : U), (eraseU own Γ)[j]? = some (some u) → j ∉ own ∧ Γ[j]? = some (some u)
  | [], _, j, u, h => ⟨by simp, h⟩
  | i :: r, Γ, j, u, h => by
    unfold eraseU at h
    obtain ⟨h1, h2⟩ := eraseU_some r _ j u h
    by_cases hj : i = j
    · subst hj
      have hl : i < Γ.length := by have := (List.getElem?_eq_some_iff.mp h2).1; simpa using this
      rw [List.getElem?_set_self hl] at h2
      cases h2
    · rw [List.getElem?_set_ne hj] at h2
      exact ⟨by simp only [List.mem_cons, not_or]; exact ⟨fun e => hj e.symm, h1⟩, h2⟩
theorem StR.toEnv (S : StR ok b own Γ env ah) (o : OkB ok b) : EnvR ok ah Γ env := ⟨S.len, fun i u e => by
  by_cases hi : i ∈ own
  · obtain ⟨n, ob, v, e1, e2, e3, e4, e5⟩ := S.ow i hi
    rw [e] at e4
    cases e4
    exact ⟨_, e1, (e5.mono (fun _ h => h.1) Sta.refl).to (o.fresh n e2) e3⟩
  · obtain ⟨d, e1, r⟩ := S.sh i u hi e
    exact ⟨d, e1, R.mono (fun _ h => h.1) Sta.refl _ _ r⟩⟩
theorem StR.clean (S : StR ok b own Γ env ah) : EnvR (av ok env own) ah (eraseU own Γ) env := ⟨by rw [eraseU_len, S.len], fun i u e => by
  obtain ⟨h1, h2⟩ := eraseU_some own Γ i u e
  exact S.sh i u h1 h2⟩
theorem StR.grow (S : StR ok b own Γ env ah) (o : OkB ok b) (g : Grow ah ah') : StR ok b own Γ env ah' :=
  have s := g.sta (S.okav o)
  ⟨S.len, Nat.le_trans S.bl g.len, fun i u hi e => let ⟨d, e1, r⟩ := S.sh i u hi e; ⟨d, e1, R.mono (fun _ h => h) s _ _ r⟩, fun i hi => by
    obtain ⟨n, ob, v, e1, e2, e3, e4, e5⟩ := S.ow i hi
    have hn := (List.getElem?_eq_some_iff.mp e3).1
    exact ⟨n, ob, v, e1, e2, by rw [g.same n (o.three n (o.fresh n e2)) hn]; exact e3, e4, e5.mono (fun _ h => h) s⟩, S.inj⟩
theorem av_mono (h : ∀ i, i ∈ own' → i ∈ own) {n : Nat} (a : av ok env own n) : av ok env own' n := ⟨a.1, fun i hi => a.2 i (h i hi)⟩
theorem StR.drop (S : StR ok b own Γ env ah) (o : OkB ok b) (h : own' ⊆ own) : StR ok b own' Γ env ah :=
  ⟨S.len, S.bl, fun i u hi e => by
    by_cases hi' : i ∈ own
    · obtain ⟨n, ob, v, e1, e2, e3, e4, e5⟩ := S.ow i hi'
      rw [e] at e4
      cases e4
      refine ⟨_, e1, (e5.mono (fun n a => av_mono (fun i hi => h hi) a) Sta.refl).to ⟨o.fresh n e2, fun j hj ej => ?_⟩ e3⟩
      exact hi (S.inj i j n hi' (h hj) e1 ej ▸ hj)
    · obtain ⟨d, e1, r⟩ := S.sh i u hi' e
      exact ⟨d, e1, R.mono (fun n a => av_mono (fun i hi => h hi) a) Sta.refl _ _ r⟩, fun i hi => by
    obtain ⟨n, ob, v, e1, e2, e3, e4, e5⟩ := S.ow i (h hi)
    exact ⟨n, ob, v, e1, e2, e3, e4, e5.mono (fun n a => av_mono (fun i hi => h hi) a) Sta.refl⟩, fun i j n hi hj => S.inj i j n (h hi) (h hj)⟩
theorem av_env (h : ∀ i, i ∈ own → env'[i]? = env[i]?) {n : Nat} (a : av ok env own n) : av ok env' own n := ⟨a.1, fun i hi => by rw [h i hi]; exact a.2 i hi⟩
theorem StR.sets {bs : List (Nat × U)} {cs : List (Nat × D)} (S : StR ok b own Γ env ah) (r : Rb (av ok env own) ah bs cs) (hn : ∀ x ∈ bs, x.1 ∉ own) : StR ok b own (setU Γ bs) (setD env cs) ah := by
  have hc : ∀ x ∈ cs, x.1 ∉ own := fun x hx => by
    have : x.1 ∈ bs.map (·.1) := by rw [r.1]; exact List.mem_map_of_mem hx
    obtain ⟨y, hy, e⟩ := List.mem_map.mp this
    rw [← e]; exact hn y hy
  have sameD : ∀ i, i ∈ own → (setD env cs)[i]? = env[i]? := fun i hi => setD_ne env cs fun x hx e => hc x hx (e ▸ hi)
  have sameU : ∀ i, i ∈ own → (setU Γ bs)[i]? = Γ[i]? := fun i hi => setU_ne Γ bs fun x hx e => hn x hx (e ▸ hi)
  have e1 : EnvR (av ok env own) ah (eraseU own Γ) env := S.clean
  have up : ∀ n, av ok env own n → av ok (setD env cs) own n := fun n a => av_env sameD a
  refine ⟨by rw [setD_len, setU_len, S.len], S.bl, fun i u hi e => ?_, fun i hi => ?_, fun i j n hi hj h1 h2 => ?_⟩
  · -- a shared one, set or not
    have key : ∀ (bs : List (Nat × U)) (cs : List (Nat × D)) (Γ : UEnv) (env' : HA.Env), Rb (av ok env own) ah bs cs → env'.length = Γ.length → (∀ i u, i ∉ own → Γ[i]? = some (some u) → ∃ d, env'[i]? = some (some d) ∧ R (av ok env own) ah u d) → ∀ i u, i ∉ own → (setU Γ bs)[i]? = some (some u) → ∃ d, (setD env' cs)[i]? = some (some d) ∧ R (av ok env own) ah u d := by
      intro bs
      induction bs with
      | nil =>
        intro cs Γ env' r hl h i u hi e
        cases cs with
        | nil => exact h i u hi e
        | cons c cs => have := r.1; simp at this
      | cons x bs ih =>
        intro cs Γ env' r hl h i u hi e
        cases cs with
        | nil => have := r.1; simp at this
        | cons c cs =>
          obtain ⟨j, v⟩ := x
          obtain ⟨j', d⟩ := c
          have r1 := r.1
          have r2 := r.2
          simp only [List.map_cons, List.cons.injEq] at r1
          simp only [List.map_cons, Rs, List.cons.injEq] at r2
          obtain ⟨rfl, r1⟩ := r1
          obtain ⟨_, _, ⟨rfl, rfl⟩, q, r2⟩ := r2
          refine ih cs (Γ.set j (some v)) (env'.set j (some d)) ⟨r1, r2⟩ (by simp [hl]) (fun i u hi e => ?_) i u hi e
          by_cases hj : j = i
          · subst hj
            have hlt : j < Γ.length := by have := (List.getElem?_eq_some_iff.mp e).1; simpa using this
            rw [List.getElem?_set_self hlt] at e
            cases e
            exact ⟨d, by rw [List.getElem?_set_self (by rw [hl]; exact hlt)], q⟩
          · rw [List.getElem?_set_ne hj] at e ⊢
            exact h i u hi e
    obtain ⟨d, h1, h2⟩ := key bs cs Γ env r S.len S.sh i u hi e
    exact ⟨d, h1, R.mono up Sta.refl _ _ h2⟩
  · obtain ⟨n, ob, v, e1, e2, e3, e4, e5⟩ := S.ow i hi
    exact ⟨n, ob, v, by rw [sameD i hi]; exact e1, e2, e3, by rw [sameU i hi]; exact e4, e5.mono up Sta.refl⟩
  · rw [sameD i hi] at h1
    rw [sameD j hj] at h2
    exact S.inj i j n hi hj h1 h2
theorem StR.new {i n : Nat} {u : U} {o : AObj} (S : StR ok b own Γ env ah) (O : OkB ok b) (g : Grow ah ah') (hn : ah.length ≤ n) (e : ah'[n]? = some o) (r : OR (fun m => av ok env own m ∧ m ≠ n) ah' u o) (hi : i < env.length) (hs : own' ⊆ i :: own) : StR ok b own' (Γ.set i (some u)) (env.set i (some (.ref n))) ah' := by
  have S' := S.grow O g
  have fresh : ∀ j, j ∈ own → env[j]? ≠ some (some (.ref n)) := fun j hj e => by
    obtain ⟨m, ob, v, e1, e2, e3, e4, e5⟩ := S.ow j hj
    rw [e1] at e
    cases e
    have := (List.getElem?_eq_some_iff.mp e3).1
    omega
  have atI : (env.set i (some (D.ref n)))[i]? = some (some (.ref n)) := List.getElem?_set_self hi
  have ne : ∀ j, i ≠ j → (env.set i (some (D.ref n)))[j]? = env[j]? := fun j h => List.getElem?_set_ne h
  have up : ∀ m, (av ok env own m ∧ m ≠ n) → av ok (env.set i (some (.ref n))) own' m := fun m a => ⟨a.1.1, fun j hj e => by
    by_cases h : i = j
    · subst h; rw [atI] at e; cases e; exact a.2 rfl
    · rw [ne j h] at e
      rcases List.mem_cons.mp (hs hj) with h' | h'
      · exact h h'.symm
      · exact a.1.2 j h' e⟩
  have stay : Sta (av ok env own) ah ah' := g.sta (S.okav O)
  have upR : ∀ (u : U) (d : D), R (av ok env own) ah u d → R (av ok (env.set i (some (.ref n))) own') ah' u d := fun u d h => by
    have h2 : R (fun m => av ok env own m ∧ m < ah.length) ah u d := R.inb u d h
    exact R.mono (fun m a => up m ⟨a.1, by have := a.2; omega⟩) (fun m o a e => stay m o a.1 e) u d h2
  refine ⟨by simp [S.len], Nat.le_trans S.bl g.len, fun j v hj ej => ?_, fun j hj => ?_, fun j k m hj hk e1 e2 => ?_⟩
  · by_cases h : i = j
    · subst h
      have hl : i < Γ.length := by rw [← S.len]; exact hi
      rw [List.getElem?_set_self hl] at ej
      cases ej
      refine ⟨_, atI, (r.mono (fun m a => up m a) Sta.refl).to ⟨O.fresh n (Nat.le_trans S.bl hn), fun k hk ek => ?_⟩ e⟩
      by_cases h' : i = k
      · subst h'; exact hj hk
      · rw [ne k h'] at ek
        rcases List.mem_cons.mp (hs hk) with z | z
        · exact h' z.symm
        · exact fresh k z ek
    · rw [List.getElem?_set_ne h] at ej
      by_cases hjo : j ∈ own
      · obtain ⟨m, ob, v', e1, e2, e3, e4, e5⟩ := S.ow j hjo
        rw [ej] at e4
        cases e4
        have hm := (List.getElem?_eq_some_iff.mp e3).1
        refine ⟨_, by rw [ne j h]; exact e1, ?_⟩
        have e3' : ah'[m]? = some ob := by rw [g.same m (O.three m (O.fresh m e2)) hm]; exact e3
        have e5' := OR.inb e5
        refine (e5'.mono (ok' := av ok (env.set i (some (.ref n))) own') (fun m a => up m ⟨a.1, by have := a.2; omega⟩) (fun m o a e => stay m o a.1 e)).to ⟨O.fresh m e2, fun k hk ek => ?_⟩ e3'
        by_cases h' : i = k
        · subst h'; rw [atI] at ek; cases ek; omega
        · rw [ne k h'] at ek
          rcases List.mem_cons.mp (hs hk) with z | z
          · exact h' z.symm
          · exact hj (S.inj j k m hjo z e1 ek ▸ hk)
      · obtain ⟨d, e1, q⟩ := S.sh j v hjo ej
        exact ⟨d, by rw [ne j h]; exact e1, upR v d q⟩
  · by_cases h : i = j
    · subst h
      have hl : i < Γ.length := by rw [← S.len]; exact hi
      exact ⟨n, o, u, atI, Nat.le_trans S.bl hn, e, List.getElem?_set_self hl, r.mono (fun m a => up m a) Sta.refl⟩
    · have hjo : j ∈ own := by
        rcases List.mem_cons.mp (hs hj) with z | z
        · exact absurd z.symm h
        · exact z
      obtain ⟨m, ob, v', e1, e2, e3, e4, e5⟩ := S.ow j hjo
      have hm := (List.getElem?_eq_some_iff.mp e3).1
      refine ⟨m, ob, v', by rw [ne j h]; exact e1, e2, by rw [g.same m (O.three m (O.fresh m e2)) hm]; exact e3, by rw [List.getElem?_set_ne h]; exact e4, ?_⟩
      exact (OR.inb e5).mono (fun m a => up m ⟨a.1, by have := a.2; omega⟩) (fun m o a e => stay m o a.1 e)
  · have low : ∀ k, k ∈ own' → i ≠ k → ∀ m, env[k]? = some (some (.ref m)) → m < ah.length := fun k hk hne m e => by
      rcases List.mem_cons.mp (hs hk) with z | z
      · exact absurd z.symm hne
      · obtain ⟨m', ob, v', e1, e2, e3, e4, e5⟩ := S.ow k z
        rw [e1] at e
        cases e
        exact (List.getElem?_eq_some_iff.mp e3).1
    by_cases h1 : i = j
    · by_cases h2 : i = k
      · rw [← h1, ← h2]
      · subst h1
        rw [atI] at e1
        cases e1
        rw [ne k h2] at e2
        have := low k hk h2 n e2
        omega
    · by_cases h2 : i = k
      · subst h2
        rw [atI] at e2
        cases e2
        rw [ne j h1] at e1
        have := low j hj h1 n e1
        omega
      · rw [ne j h1] at e1
        rw [ne k h2] at e2
        have m1 : j ∈ own := by
          rcases List.mem_cons.mp (hs hj) with z | z
          · exact absurd z.symm h1
          · exact z
        have m2 : k ∈ own := by
          rcases List.mem_cons.mp (hs hk) with z | z
          · exact absurd z.symm h2
          · exact z
        exact S.inj j k m m1 m2 e1 e2
end
end HV
namespace HV
open PySem PySem.Spec PyProof.Rows L2 HA
section
variable {ok : Nat → Prop} {b : Nat} {own own' own1 : List Nat} {Γ : UEnv} {env env' env1 : HA.Env} {ah ah' ah1 : AH}
theorem StR.mut {i n : Nat} {u : U} {o : AObj} (S : StR ok b own Γ env ah) (O : OkB ok b) (hi : i ∈ own) (e : env[i]? = some (some (.ref n))) (r : OR (av ok env own) ah u o) : StR ok b own (Γ.set i (some u)) env (ah.set n o) ∧ PreS b own env ah own env (ah.set n o) := by
  obtain ⟨m, ob, v, e1, e2, e3, e4, e5⟩ := S.ow i hi
  rw [e] at e1
  cases e1
  have hl := (List.getElem?_eq_some_iff.mp e3).1
  have hiΓ := (List.getElem?_eq_some_iff.mp e4).1
  have stay : Sta (av ok env own) ah (ah.set n o) := fun k ob a ek => by
    rw [List.getElem?_set_ne (fun z => a.2 i hi (by rw [← z]; exact e))]; exact ek
  refine ⟨⟨by simp [S.len], by rw [List.length_set]; exact S.bl, fun j w hj ej => ?_, fun j hj => ?_, S.inj⟩, ⟨by simp, fun k h3 hk hne => List.getElem?_set_ne (fun z => hne i hi (by rw [← z]; exact e)), fun k h3 hk => List.getElem?_set_ne (by omega), fun j k hj ej _ => ⟨j, hj, ej⟩⟩⟩
  · have hij : i ≠ j := fun z => hj (z ▸ hi)
    rw [List.getElem?_set_ne hij] at ej
    obtain ⟨d, d1, d2⟩ := S.sh j w hj ej
    exact ⟨d, d1, R.mono (fun _ h => h) stay _ _ d2⟩
  · by_cases hij : i = j
    · subst hij
      exact ⟨n, o, u, e, e2, by rw [List.getElem?_set_self hl], List.getElem?_set_self hiΓ, r.mono (fun _ h => h) stay⟩
    · obtain ⟨m, ob', v', f1, f2, f3, f4, f5⟩ := S.ow j hj
      exact ⟨m, ob', v', f1, f2, by rw [List.getElem?_set_ne (fun z => hij (S.inj i j n hi hj e (by rw [z]; exact f1)))]; exact f3, by rw [List.getElem?_set_ne hij]; exact f4, f5.mono (fun _ h => h) stay⟩
end
theorem Dks.set {K : Dks} {N n : Nat} {ah : AH} {o : AObj} (h : K.at' N ah) (h3 : 3 ≤ n) : K.at' N (ah.set n o) := K.stay h (by rw [List.length_set]; exact K.len h) fun m hm => List.getElem?_set_ne (by omega)
def eok (E : Option (List Nat)) (own : List Nat) : Bool := match E with
  | none => true
  | some ow => ow.all fun i => own.contains i
theorem eok_sub {ow own : List Nat} (h : eok (some ow) own = true) : ow ⊆ own := fun i hi => by
  unfold eok at h
  rw [List.all_eq_true] at h
  simpa using h i hi
def sub (a b : List Nat) : Bool := a.all fun i => b.contains i
theorem sub_sub {a b : List Nat} (h : sub a b = true) : a ⊆ b := fun i hi => by
  unfold sub at h
  rw [List.all_eq_true] at h
  simpa using h i hi
def dis (a b : List Nat) : Bool := a.all fun i => !b.contains i
theorem dis_not {a b : List Nat} (h : dis a b = true) {i : Nat} (hi : i ∈ a) : i ∉ b := by
  unfold dis at h
  rw [List.all_eq_true] at h
  simpa using h i hi
def RetR (F : Bool) (ok : Nat → Prop) (b : Nat) (ah : AH) (u : U) (d : D) : Prop := match F with
  | true => ∃ n o, d = .ref n ∧ b ≤ n ∧ ah[n]? = some o ∧ OR (fun m => ok m ∧ m ≠ n) ah u o
  | false => R ok ah u d
section
variable (K : Dks) (F : Bool) (L : List Nat) (E : Option (List Nat))
def PSR (ok : Nat → Prop) (b : Nat) (own : List Nat) (env : HA.Env) (ah : AH) (own' : List Nat) (N : Nat) (S : SK) : SRes → Prop
  | .nx env' ah' => ∃ Γ', S.nx Γ' ∧ StR ok b own' Γ' env' ah' ∧ PreS b own env ah own' env' ah' ∧ K.at' N ah'
  | .rt d ah' => ∃ u, S.rt u ∧ RetR F ok b ah' u d ∧ GrowB b ah ah' ∧ K.at' N ah'
  | .bk env' ah' => ∃ Γ', S.bk Γ' ∧ StR ok b L Γ' env' ah' ∧ PreS b own env ah L env' ah' ∧ K.at' N ah'
  | .ct env' ah' => ∃ Γ', S.ct Γ' ∧ StR ok b L Γ' env' ah' ∧ PreS b own env ah L env' ah' ∧ K.at' N ah'
  | .exn c fs env' ah' => ∃ f Γ', S.ex c f Γ' ∧ RX ok ah' f fs ∧ (∀ ow, E = some ow → StR ok b ow Γ' env' ah' ∧ PreS b own env ah ow env' ah') ∧ GrowB b ah ah' ∧ K.at' N ah'
  | .stuck => False
structure LS (c : Nat) (own own' : List Nat) (m : SM) (p : VS) : Prop where
  to : ∀ {ok : Nat → Prop} {b : Nat} {Γ : UEnv} {env : HA.Env} {ah : AH} {N : Nat} {S : SK}, OkB ok b → StR ok b own Γ env ah → K.at' N ah → N + cb c ≤ LIM → p Γ S → PSR K F L E ok b own env ah own' (N + cb c) S (m env ah)
end
section
variable {K : Dks} {F : Bool} {L : List Nat} {E : Option (List Nat)} {own own' own1 own2 : List Nat}
theorem PSR.le {ok : Nat → Prop} {b : Nat} {env : HA.Env} {ah : AH} {N M : Nat} {S : SK} {r : SRes} (h : PSR K F L E ok b own env ah own' N S r) (hM : N ≤ M) : PSR K F L E ok b own env ah own' M S r := by
  revert h
  unfold PSR
  split
  · exact fun ⟨a, h1, h2, h3, h4⟩ => ⟨a, h1, h2, h3, K.mono h4 hM⟩
  · exact fun ⟨a, h1, h2, h3, h4⟩ => ⟨a, h1, h2, h3, K.mono h4 hM⟩
  · exact fun ⟨a, h1, h2, h3, h4⟩ => ⟨a, h1, h2, h3, K.mono h4 hM⟩
  · exact fun ⟨a, h1, h2, h3, h4⟩ => ⟨a, h1, h2, h3, K.mono h4 hM⟩
  · exact fun ⟨a, g, h1, h2, h3, h4, h5⟩ => ⟨a, g, h1, h2, h3, h4, K.mono h5 hM⟩
  · exact fun h => h
theorem PSR.after {ok : Nat → Prop} {b : Nat} {env env1 : HA.Env} {ah ah1 : AH} {N : Nat} {S : SK} {r : SRes} (h : PSR K F L E ok b own1 env1 ah1 own' N S r) (p : PreS b own env ah own1 env1 ah1) : PSR K F L E ok b own env ah own' N S r := by
  revert h
  unfold PSR
  split
  · exact fun ⟨a, h1, h2, h3, h4⟩ => ⟨a, h1, h2, p.trans h3, h4⟩
  · exact fun ⟨a, h1, h2, h3, h4⟩ => ⟨a, h1, h2, p.growB.trans h3, h4⟩
  · exact fun ⟨a, h1, h2, h3, h4⟩ => ⟨a, h1, h2, p.trans h3, h4⟩
  · exact fun ⟨a, h1, h2, h3, h4⟩ => ⟨a, h1, h2, p.trans h3, h4⟩
  · exact fun ⟨a, g, h1, h2, h3, h4, h5⟩ => ⟨a, g, h1, h2, fun ow ho => ⟨(h3 ow ho).1, p.trans (h3 ow ho).2⟩, p.growB.trans h4, h5⟩
  · exact fun h => h
theorem PSR.expr {α β : Type} {Q : Rl α β} {ok ok' : Nat → Prop} {b : Nat} {Γ : UEnv} {env : HA.Env} {ah : AH} {N M : Nat} {S : SK} {k : α → Prop} {r : Res β} {f : β → AH → SRes} (O : OkB ok b) (st : StR ok b own Γ env ah) (hE : eok E own = true) (hok : ∀ n, ok' n → ok n)
    (h : PR K ok' ah N Q (fun a f => S.ex a f Γ) k r) (hN : N ≤ M) (hf : ∀ a x ah', k a → Q.r ok' ah' a x → Grow ah ah' → StR ok b own Γ env ah' → K.at' N ah' → PSR K F L E ok b own env ah' own' M S (f x ah')) : PSR K F L E ok b own env ah own' M S (r.thenS env f) := by
  cases r with
  | ok x ah' =>
    obtain ⟨a, ka, q, g, kk⟩ := h
    exact (hf a x ah' ka q g (st.grow O g) kk).after (PreS.ofGrow g st.bl (fun _ h => h))
  | exn c fs ah' =>
    obtain ⟨f, x, q, g, kk⟩ := h
    refine ⟨f, Γ, x, RX.mono hok Sta.refl q, fun ow ho => ?_, ⟨g.len, fun n h3 hn => g.same n h3 (Nat.lt_of_lt_of_le hn st.bl)⟩, K.mono kk hN⟩
    subst ho
    exact ⟨(st.grow O g).drop O (eok_sub hE), PreS.ofGrow g st.bl (eok_sub hE)⟩
  | stuck => exact h
def vSkip : VS := fun Γ S => S.nx Γ
def vSeq (a b : VS) : VS := fun Γ S => a Γ ⟨fun Γ' => b Γ' S, S.rt, S.bk, S.ct, S.ex⟩
def vRet (p : VE U) : VS := fun Γ S => p Γ (fun a f => S.ex a f Γ) S.rt
def vRetN : VS := fun _ S => S.rt .non
def vExpr (p : VE U) : VS := fun Γ S => p Γ (fun a f => S.ex a f Γ) fun _ => S.nx Γ
def vAsg (own : List Nat) (p : VE U) (t : VTM) : VS := fun Γ S => p (eraseU own Γ) (fun a f => S.ex a f Γ) fun u => match t u with
  | some bs => S.nx (setU Γ bs)
  | none => False
def vAsgF (p : VE U) (t : VTM) : VS := fun Γ S => p Γ (fun a f => S.ex a f Γ) fun u => u.flat = true ∧ match t u with
  | some bs => S.nx (setU Γ bs)
  | none => False
def vIfS (c : VE Bool) (a b : VS) : VS := fun Γ S => c Γ (fun a f => S.ex a f Γ) fun t => if t = true then a Γ S else b Γ S
def vBk : VS := fun Γ S => S.bk Γ
def vCt : VS := fun Γ S => S.ct Γ
theorem ls_skip : LS K F L E 0 own own sSkip vSkip := ⟨fun O st kk l x => ⟨_, x, st, PreS.ofGrow Grow.refl st.bl (fun _ h => h), kk⟩⟩
theorem ls_drop {c : Nat} {m : SM} {p : VS} (h : LS K F L E c own own1 m p) (hs : sub own' own1 = true := by rfl) : LS K F L E c own own' m p := ⟨fun {ok b Γ env ah N S} O st kk l x => by
  have := h.to O st kk l x
  revert this
  unfold PSR
  split
  · exact fun ⟨a, h1, h2, h3, h4⟩ => ⟨a, h1, h2.drop O (sub_sub hs), ⟨h3.len, h3.same, h3.old, fun i n hi => h3.refs i n (sub_sub hs hi)⟩, h4⟩
  all_goals exact fun h => h⟩
theorem ls_free {c : Nat} {m : SM} {p : VS} (h : LS K F L E c own1 own' m p) (hs : sub own1 own = true := by rfl) : LS K F L E c own own' m p := ⟨fun {ok b Γ env ah N S} O st kk l x =>
  (h.to O (st.drop O (sub_sub hs)) kk l x).after (PreS.ofGrow Grow.refl st.bl (sub_sub hs))⟩
theorem ls_seq {c c' : Nat} {m m' : SM} {p p' : VS} (h : LS K F L E c own own1 m p) (h' : LS K F L E c' own1 own' m' p') : LS K F L E (sq c c') own own' (sSeq m m') (vSeq p p') := ⟨fun {ok b Γ env ah N S} O st kk l x => by
  have s := cb_sq c c'
  have w := h.to O st kk (by omega) x
  unfold sSeq
  cases z : m env ah with
  | nx env1 ah1 =>
    rw [z] at w
    obtain ⟨Γ', h1, h2, h3, h4⟩ := w
    exact ((h'.to O h2 h4 (by omega) h1).after h3).le (by omega)
  | rt d ah1 => rw [z] at w; obtain ⟨u, h1, h2, h3, h4⟩ := w; exact ⟨u, h1, h2, h3, K.mono h4 (by omega)⟩
  | bk e ah1 => rw [z] at w; obtain ⟨u, h1, h2, h3, h4⟩ := w; exact ⟨u, h1, h2, h3, K.mono h4 (by omega)⟩
  | ct e ah1 => rw [z] at w; obtain ⟨u, h1, h2, h3, h4⟩ := w; exact ⟨u, h1, h2, h3, K.mono h4 (by omega)⟩
  | exn c fs e ah1 => rw [z] at w; obtain ⟨u, g, h1, h2, h3, h4, h5⟩ := w; exact ⟨u, g, h1, h2, h3, h4, K.mono h5 (by omega)⟩
  | stuck => rw [z] at w; exact w.elim⟩
theorem ls_ret {c : Nat} {m : EM D} {p : VE U} (h : LE K RU c m p) (hE : eok E own = true := by rfl) : LS K false L E c own own' (sRet m) (vRet p) := ⟨fun {ok b Γ env ah N S} O st kk l x =>
  PSR.expr O st hE (fun _ h => h) (h.to (st.okf O) (st.toEnv O) kk l x) (Nat.le_refl _) fun a d ah' ka q g st' kk' => ⟨a, ka, q, ⟨Nat.le_refl _, fun _ _ _ => rfl⟩, kk'⟩⟩
theorem PSR.bind {ok : Nat → Prop} {b : Nat} {Γ : UEnv} {env : HA.Env} {ah : AH} {N : Nat} {S : SK} {tm : TM} {vt : VTM} {ts : List Nat} {u : U} {d : D} (O : OkB ok b) (st : StR ok b own Γ env ah) (hT : LTg tm vt ts) (hd : dis ts own = true) (q : R (av ok env own) ah u d) (kk : K.at' N ah)
    (x : match vt u with
      | some bs => S.nx (setU Γ bs)
      | none => False) : PSR K F L E ok b own env ah own N S (match tm d env ah with
      | some env1 => .nx env1 ah
      | none => .stuck) := by
  split at x
  · rename_i bs hb
    obtain ⟨cs, h1, h2, h3⟩ := hT.to env q hb
    rw [h1]
    have hn : ∀ y ∈ bs, y.1 ∉ own := fun y hy => dis_not hd (h3 y hy)
    refine ⟨_, x, st.sets h2 hn, ⟨Nat.le_refl _, fun _ _ _ _ => rfl, fun _ _ _ => rfl, fun i n hi e _ => ⟨i, hi, ?_⟩⟩, kk⟩
    rw [← e]
    refine (setD_ne env cs fun y hy z => ?_).symm
    have : y.1 ∈ bs.map (·.1) := by rw [h2.1]; exact List.mem_map_of_mem hy
    obtain ⟨w, hw, ew⟩ := List.mem_map.mp this
    exact hn w hw (by rw [ew, z]; exact hi)
  · exact x.elim
theorem ls_asg {c : Nat} {m : EM D} {p : VE U} {tm : TM} {vt : VTM} {ts : List Nat} (h : LE K RU c m p) (hT : LTg tm vt ts) (hd : dis ts own = true := by rfl) (hE : eok E own = true := by rfl) : LS K F L E c own own (sAsg m tm) (vAsg own p vt) := ⟨fun {ok b Γ env ah N S} O st kk l x =>
  PSR.expr O st hE (fun _ h => h.1) (h.to (st.okav O) st.clean kk l x) (Nat.le_refl _) fun a d ah' ka q g st' kk' => PSR.bind O st' hT hd q kk' ka⟩
theorem ls_if {c c1 c2 : Nat} {mc : EM Bool} {pc : VE Bool} {m m' : SM} {p p' : VS} (hc : LE K (REq Bool) c mc pc) (h : LS K F L E c1 own own' m p) (h' : LS K F L E c2 own own' m' p') (hE : eok E own = true := by rfl) : LS K F L E (sq c (sq c1 c2)) own own' (sIf mc m m') (vIfS pc p p') := ⟨fun {ok b Γ env ah N S} O st kk l x => by
  have s := cb_sq c (sq c1 c2)
  have s' := cb_sq c1 c2
  refine PSR.expr (N := N + cb c) O st hE (fun _ h => h) (hc.to (st.okf O) (st.toEnv O) kk (by omega) x) (by omega) fun a d ah' ka q g st' kk' => ?_
  cases q
  cases a with
  | true => exact (h.to O st' kk' (by omega) ka).le (by omega)
  | false => exact (h'.to O st' kk' (by omega) ka).le (by omega)⟩
structure LN (c : Nat) (m : EM D) (p : VE U) : Prop where
  to : ∀ {ok : Nat → Prop} {Γ : UEnv} {env : HA.Env} {ah : AH} {N : Nat} {X : ExK} {k : U → Prop}, OkF ok ah → EnvR ok ah Γ env → K.at' N ah → N + cb c ≤ LIM → p Γ X k → match m env ah with
    | .ok d ah' => ∃ u n o, k u ∧ d = .ref n ∧ ah.length ≤ n ∧ ah'[n]? = some o ∧ OR (fun m => ok m ∧ m ≠ n) ah' u o ∧ Grow ah ah' ∧ K.at' (N + cb c) ah'
    | .exn a fs ah' => ∃ f, X a f ∧ RX ok ah' f fs ∧ Grow ah ah' ∧ K.at' (N + cb c) ah'
    | .stuck => False
theorem ln_new {c : Nat} {m : EM (List D)} {p : VE (List U)} (h : LE K RUs c m p) : LN (K := K) c (eNew m) (vNew p) := ⟨fun {ok Γ env ah N X k} o e kk l x => by
  have w := h.to o e kk l x
  unfold eNew e1
  cases z : m env ah with
  | ok ds ah1 =>
    rw [z] at w
    obtain ⟨us, h1, h2, h3, h4⟩ := w
    have h2' : Rs ok ah1 us ds := h2
    refine ⟨.lst us, ah1.length, .lst ds, h1, rfl, h3.len, by simp, ?_, h3.trans Grow.app, K.app _ h4⟩
    exact Rs.mono (fun n a => ⟨a.1, by have := a.2; omega⟩) (fun n o a e => by rw [List.getElem?_append_left a.2]; exact e) _ _ (Rs.inb _ _ h2')
  | exn a fs ah1 => rw [z] at w; exact w
  | stuck => rw [z] at w; exact w⟩
def vAsgN (own : List Nat) (p : VE U) (i : Nat) : VS := fun Γ S => i < Γ.length ∧ vAsg own p (tSet i) Γ S
theorem ls_new {c i : Nat} {m : EM D} {p : VE U} (h : LN (K := K) c m p) (hs : sub own' (i :: own) = true := by rfl) (hE : eok E own = true := by rfl) : LS K F L E c own own' (sAsg m (gSet i)) (vAsgN own p i) := ⟨fun {ok b Γ env ah N S} O st kk l x => by
  obtain ⟨hi, x⟩ := x
  have w := h.to (st.okav O) st.clean kk l x
  unfold sAsg
  cases z : m env ah with
  | ok d ah1 =>
    rw [z] at w
    obtain ⟨u, n, o, h1, rfl, h3, h4, h5, h6, h7⟩ := w
    refine ⟨_, h1, st.new O h6 h3 h4 h5 (by rw [st.len]; exact hi) (sub_sub hs), ⟨h6.len, fun m a b _ => h6.same m a b, fun m a c => h6.same m a (Nat.lt_of_lt_of_le c st.bl), fun j m hj e hm => ?_⟩, h7⟩
    by_cases h' : i = j
    · subst h'
      have hl : i < env.length := by rw [st.len]; exact hi
      rw [List.getElem?_set_self hl] at e
      cases e
      omega
    · rw [List.getElem?_set_ne h'] at e
      rcases List.mem_cons.mp (sub_sub hs hj) with q | q
      · exact absurd q.symm h'
      · exact ⟨j, q, e⟩
  | exn a fs ah1 =>
    rw [z] at w
    obtain ⟨f, x1, x2, g, kk'⟩ := w
    refine ⟨f, Γ, x1, RX.mono (fun _ h => h.1) Sta.refl x2, fun ow ho => ?_, ⟨g.len, fun n h3 hn => g.same n h3 (Nat.lt_of_lt_of_le hn st.bl)⟩, kk'⟩
    subst ho
    exact ⟨(st.grow O g).drop O (eok_sub hE), PreS.ofGrow g st.bl (eok_sub hE)⟩
  | stuck => rw [z] at w; exact w.elim⟩
end
end HV
namespace HV
open PySem PySem.Spec PyProof.Rows L2 HA
section
variable {K : Dks} {F : Bool} {L : List Nat} {E : Option (List Nat)} {own own' own1 own2 : List Nat}
def vForL (vt : VTM) (body : VS) : List U → UEnv → SK → Prop
  | [], Γ, S => S.nx Γ
  | u :: us, Γ, S => match vt u with
    | some bs => body (setU Γ bs) ⟨fun Γ' => vForL vt body us Γ' S, S.rt, S.nx, fun Γ' => vForL vt body us Γ' S, S.ex⟩
    | none => False
def vFor (own : List Nat) (pi : VE (List U)) (vt : VTM) (body : VS) : VS := fun Γ S => pi (eraseU own Γ) (fun a f => S.ex a f Γ) fun us => vForL vt body us Γ S
def vForB (own : List Nat) (pi : VE (List U)) (vt : VTM) (body : VS) : VS := fun Γ S => pi (eraseU own Γ) (fun a f => S.ex a f Γ) fun us => us.length ≤ line ∧ vForL vt body us Γ S
theorem guard_pre {b : Nat} {ok : Nat → Prop} {env env' : HA.Env} {ah ah' : AH} {t : Itm} (O : OkB ok b) (p : PreS b own env ah own env' ah') (hg : ∀ q, q ∈ t.guard → av ok env own q.1 ∧ ah[q.1]? = some (.lst q.2)) : ∀ q, q ∈ t.guard → av ok env' own q.1 ∧ ah'[q.1]? = some (.lst q.2) := fun q hq => by
  obtain ⟨a, e⟩ := hg q hq
  have hl := (List.getElem?_eq_some_iff.mp e).1
  refine ⟨⟨a.1, fun i hi z => ?_⟩, ?_⟩
  · obtain ⟨j, hj, ej⟩ := p.refs i _ hi z hl
    exact a.2 j hj ej
  · rw [p.same _ (O.three _ a.1) hl a.2]; exact e
theorem av_pre {b : Nat} {ok : Nat → Prop} {env env' : HA.Env} {ah ah' : AH} (p : PreS b own env ah own env' ah') {n : Nat} (a : av ok env own n ∧ n < ah.length) : av ok env' own n := ⟨a.1.1, fun i hi z => by
  obtain ⟨j, hj, ej⟩ := p.refs i _ hi z a.2
  exact a.1.2 j hj ej⟩
theorem Rs.pre {b : Nat} {ok : Nat → Prop} {env env' : HA.Env} {ah ah' : AH} {us : List U} {ds : List D} (O : OkB ok b) (p : PreS b own env ah own env' ah') (r : Rs (av ok env own) ah us ds) : Rs (av ok env' own) ah' us ds :=
  Rs.mono (fun n a => av_pre p a) (fun n o a e => by rw [p.same n (O.three n a.1.1) a.2 a.1.2]; exact e) _ _ (Rs.inb _ _ r)
theorem forLoop_V {c : Nat} {t : Itm} {tm : TM} {vt : VTM} {ts : List Nat} {body : SM} {pb : VS} {ok : Nat → Prop} {b : Nat} {S : SK} {L0 : List Nat} (O : OkB ok b) (hT : LTg tm vt ts) (hd : dis ts own = true) (hb : LS K F own E c own own body pb) :
    ∀ (us : List U) (ds : List D) (Γ : UEnv) (env : HA.Env) (ah : AH) (N : Nat), StR ok b own Γ env ah → K.at' N ah → (∀ q, q ∈ t.guard → av ok env own q.1 ∧ ah[q.1]? = some (.lst q.2)) → N + us.length * cb c ≤ LIM → Rs (av ok env own) ah us ds → vForL vt pb us Γ S → PSR K F L0 E ok b own env ah own (N + us.length * cb c) S (forLoop t tm body ds env ah)
  | [], ds, Γ, env, ah, N, st, kk, hg, l, r, x => by
    simp only [Rs] at r
    subst r
    unfold forLoop
    rw [if_pos (okIn_of fun p hp => (hg p hp).2)]
    exact ⟨Γ, x, st, PreS.ofGrow Grow.refl st.bl (fun _ h => h), by simpa using kk⟩
  | u :: us, ds, Γ, env, ah, N, st, kk, hg, l, r, x => by
    simp only [Rs] at r
    obtain ⟨d, ds, rfl, q, r⟩ := r
    rw [List.length_cons, Nat.add_mul, Nat.one_mul] at l ⊢
    unfold vForL at x
    split at x
    · rename_i bs hbs
      obtain ⟨cs, h1, h2, h3⟩ := hT.to env q hbs
      have hn : ∀ y ∈ bs, y.1 ∉ own := fun y hy => dis_not hd (h3 y hy)
      have st1 := st.sets h2 hn
      have p1 : PreS b own env ah own (setD env cs) ah := ⟨Nat.le_refl _, fun _ _ _ _ => rfl, fun _ _ _ => rfl, fun i n hi e _ => ⟨i, hi, by
        rw [← e]
        refine (setD_ne env cs fun y hy z => ?_).symm
        have : y.1 ∈ bs.map (·.1) := by rw [h2.1]; exact List.mem_map_of_mem hy
        obtain ⟨w, hw, ew⟩ := List.mem_map.mp this
        exact hn w hw (by rw [ew, z]; exact hi)⟩⟩
      unfold forLoop
      rw [if_pos (okIn_of fun p hp => (hg p hp).2), h1]
      simp only
      have w := hb.to O st1 kk (by omega) x
      have go : ∀ (Γ' : UEnv) (env' : HA.Env) (ah' : AH), vForL vt pb us Γ' S → StR ok b own Γ' env' ah' → PreS b own (setD env cs) ah own env' ah' → K.at' (N + cb c) ah' → PSR K F L0 E ok b own env ah own (N + (us.length * cb c + cb c)) S (forLoop t tm body ds env' ah') := fun Γ' env' ah' y1 y2 y3 y4 => by
        have p2 := p1.trans y3
        exact ((forLoop_V O hT hd hb us ds Γ' env' ah' (N + cb c) y2 y4 (guard_pre O p2 hg) (by omega) (Rs.pre O p2 r) y1).after p2).le (by omega)
      cases z : body (setD env cs) ah with
      | nx env1 ah1 => rw [z] at w; obtain ⟨Γ', y1, y2, y3, y4⟩ := w; exact go Γ' env1 ah1 y1 y2 y3 y4
      | ct env1 ah1 => rw [z] at w; obtain ⟨Γ', y1, y2, y3, y4⟩ := w; exact go Γ' env1 ah1 y1 y2 y3 y4
      | bk env1 ah1 => rw [z] at w; obtain ⟨Γ', y1, y2, y3, y4⟩ := w; exact ⟨Γ', y1, y2, p1.trans y3, K.mono y4 (by omega)⟩
      | rt d ah1 => rw [z] at w; obtain ⟨u, h1, h2, h3, h4⟩ := w; exact ⟨u, h1, h2, p1.growB.trans h3, K.mono h4 (by omega)⟩
      | exn a fs e ah1 => rw [z] at w; obtain ⟨u, g, h1, h2, h3, h4, h5⟩ := w; exact ⟨u, g, h1, h2, fun ow ho => ⟨(h3 ow ho).1, p1.trans (h3 ow ho).2⟩, p1.growB.trans h4, K.mono h5 (by omega)⟩
      | stuck => rw [z] at w; exact w.elim
    · exact x.elim
theorem ls_for {c : Nat} {mi : EM Itm} {pi : VE (List U)} {tm : TM} {vt : VTM} {ts : List Nat} {body : SM} {pb : VS} (hi : LE K RIt c mi pi) (hT : LTg tm vt ts) (hb : LS K F own E 0 own own body pb) (hd : dis ts own = true := by rfl) (hE : eok E own = true := by rfl) : LS K F L E c own own (sFor mi tm body) (vFor own pi vt pb) := ⟨fun {ok b Γ env ah N S} O st kk l x =>
  PSR.expr (N := N + cb c) O st hE (fun _ h => h.1) (hi.to (st.okav O) st.clean kk l x) (Nat.le_refl _) fun us t ah' ka q g st' kk' => by
    have := forLoop_V (L0 := L) O hT hd hb us t.items Γ env ah' (N + cb c) st' kk' q.2 (by rw [cb_zero]; omega) q.1 ka
    exact this.le (by rw [cb_zero]; omega)⟩
structure LTX (tm : TMX) (vt : VTM) (ts : List Nat) : Prop where
  to : ∀ {ok : Nat → Prop} {ah : AH} {u : U} {d : D} {bs : List (Nat × U)} (env : HA.Env), OkF ok ah → R ok ah u d → vt u = some bs → ∃ cs x, tm d env ah = some (setD env cs, ah ++ x) ∧ Rb ok (ah ++ x) bs cs ∧ ∀ x ∈ bs, x.1 ∈ ts
def tStar (n : Nat) (r : List U → Option (List (Nat × U))) : VTM := fun u => match u with
  | .tup us => if n ≤ us.length then r (us.take n ++ [.lst (us.drop n)]) else none
  | _ => none
def vWh (pc : VE Bool) (body : VS) : Nat → VS
  | 0 => fun _ _ => False
  | n + 1 => fun Γ S => pc Γ (fun a f => S.ex a f Γ) fun t => if t = true then body Γ ⟨fun Γ' => vWh pc body n Γ' S, S.rt, S.nx, fun Γ' => vWh pc body n Γ' S, S.ex⟩ else S.nx Γ
def vPar2 (own : List Nat) (i j : Nat) (p : VE (List U)) : VS := fun Γ S => p (eraseU own Γ) (fun a f => S.ex a f Γ) fun us => match us with
  | [x, y] => S.nx ((Γ.set i (some x)).set j (some y))
  | _ => False
abbrev VMt := U → List U → (U → U → Prop) → Prop
structure LMt (f : D → List D → AH → Res D) (vf : VMt) : Prop where
  to : ∀ {ok : Nat → Prop} {ah : AH} {n : Nat} {o : AObj} {u : U} {us : List U} {ds : List D} {k : U → U → Prop}, ¬ ok n → ah[n]? = some o → OR ok ah u o → Rs ok ah us ds → vf u us k → ∃ d o' r u', f (.ref n) ds ah = .ok d (ah.set n o') ∧ k r u' ∧ R ok ah r d ∧ OR ok ah u' o'
def vAppend : VMt
  | .lst xs, [y], k => xs.length < line ∧ k .non (.lst (xs ++ [y]))
  | _, _, _ => False
theorem OR.lst {ok : Nat → Prop} {ah : AH} {xs : List U} {o : AObj} (h : OR ok ah (.lst xs) o) : ∃ ds, o = .lst ds ∧ Rs ok ah xs ds := by
  cases o with
  | lst ds => exact ⟨ds, rfl, h⟩
  | _ => exact h.elim
def vPop : VMt
  | .lst xs, [], k => match xs[xs.length - 1]? with
    | some y => k y (.lst xs.dropLast)
    | none => False
  | .lst xs, [.int i], k => (-(2 ^ 63) ≤ i ∧ i < 2 ^ 63) ∧ match seqIndex? i xs.length with
    | some j => match xs[j]? with
      | some y => k y (.lst (xs.eraseIdx j))
      | none => False
    | none => False
  | _, _, _ => False
theorem lm_pop : LMt mPop vPop := ⟨fun {ok ah n o u us ds k} hn e r q x => by
  unfold vPop at x
  split at x
  · obtain ⟨xs, rfl, r⟩ := r.lst
    simp only [Rs] at q
    subst q
    split at x
    · rename_i y hy
      obtain ⟨d, h1, h2⟩ := r.get hy
      unfold mPop
      simp only [e]
      rw [← r.len, h1]
      exact ⟨_, _, _, _, rfl, x, h2, r.dropLast⟩
    · exact x.elim
  · obtain ⟨xs, rfl, r⟩ := r.lst
    simp only [Rs, R] at q
    obtain ⟨d, es, rfl, rfl, rfl⟩ := q
    obtain ⟨x1, x⟩ := x
    split at x
    · rename_i j hj
      split at x
      · rename_i y hy
        obtain ⟨d, h1, h2⟩ := r.get hy
        unfold mPop
        simp only [e]
        rw [if_pos x1, ← r.len]
        simp only [hj, h1]
        exact ⟨_, _, _, _, rfl, x, h2, r.eraseIdx j⟩
      · exact x.elim
    · exact x.elim
  · exact x.elim⟩
def vInsert : VMt
  | .lst xs, [.int i, y], k => (xs.length < line ∧ 0 ≤ i ∧ i < 2 ^ 63) ∧ k .non (.lst (xs.take i.toNat ++ [y] ++ xs.drop i.toNat))
  | _, _, _ => False
def vMt (own : List Nat) (i : Nat) (pa : VE (List U)) (vf : VMt) (Γ : UEnv) (X : ExK) (k : U → UEnv → Prop) : Prop := match Γ[i]? with
  | some (some (.lst xs)) => pa (eraseU own Γ) X fun us => vf (.lst xs) us fun r u' => k r (Γ.set i (some u'))
  | _ => False
def vMtF (i : Nat) (pa : VE (List U)) (vf : VMt) (Γ : UEnv) (X : ExK) (k : U → UEnv → Prop) : Prop := match Γ[i]? with
  | some (some (.lst xs)) => pa Γ X fun us => U.flats us = true ∧ vf (.lst xs) us fun r u' => k r (Γ.set i (some u'))
  | _ => False
theorem mt_go {ok ok' : Nat → Prop} {b c i N : Nat} {Γ : UEnv} {env : HA.Env} {ah : AH} {S : SK} {ml : EM (List D)} {f : D → List D → AH → Res D} {vf : VMt} {k : U → UEnv → Prop} {g : D → AH → SRes} {xs : List U} (O : OkB ok b) (st : StR ok b own Γ env ah) (hE : eok E own = true) (hi : i ∈ own) (hM : LMt f vf) (hx : Γ[i]? = some (some (.lst xs))) {Q : List U → Prop}
    (hok : ∀ n, ok' n → ok n) (w : PR K ok' ah (N + cb c) RUs (fun a f => S.ex a f Γ) Q (ml env ah)) (hQ : ∀ us ds ah', Q us → Rs ok' ah' us ds → Rs (av ok env own) ah' us ds ∧ vf (.lst xs) us fun r u' => k r (Γ.set i (some u')))
    (hg : ∀ r d ah' Γ', k r Γ' → R (av ok env own) ah' r d → StR ok b own Γ' env ah' → K.at' (N + cb c) ah' → PSR K F L E ok b own env ah' own' (N + cb c) S (g d ah')) :
    PSR K F L E ok b own env ah own' (N + cb c) S ((eMt (eVar i) ml f env ah).thenS env g) := by
  obtain ⟨n, o, u, e1, e2, e3, e4, e5⟩ := st.ow i hi
  have hn : ¬ av ok env own n := fun a => a.2 i hi e1
  rw [hx] at e4
  cases e4
  obtain ⟨es, rfl, r⟩ := e5.lst
  have hl : isList (.ref n) ah = true := by unfold isList HA.listAt; simp only [e3]; rfl
  unfold eMt eVar
  rw [e1]
  simp only [Res.bind, hl, if_true]
  cases z : ml env ah with
  | stuck =>
    rw [z] at w
    exact w.elim
  | exn a fs ah1 =>
    rw [z] at w
    obtain ⟨f1, x, q, gr, kk⟩ := w
    refine ⟨f1, Γ, x, RX.mono hok Sta.refl q, fun ow ho => ?_, ⟨gr.len, fun n h3 hn => gr.same n h3 (Nat.lt_of_lt_of_le hn st.bl)⟩, kk⟩
    subst ho
    exact ⟨(st.grow O gr).drop O (eok_sub hE), PreS.ofGrow gr st.bl (eok_sub hE)⟩
  | ok ds ah1 =>
    rw [z] at w
    obtain ⟨us, hq, q, gr, kk⟩ := w
    obtain ⟨q', x⟩ := hQ us ds ah1 hq q
    have st1 := st.grow O gr
    have hlen := (List.getElem?_eq_some_iff.mp e3).1
    have e3' : ah1[n]? = some (.lst es) := by rw [gr.same n (O.three n (O.fresh n e2)) hlen]; exact e3
    have r' : Rs (av ok env own) ah1 xs es := Rs.mono (fun _ h => h) (gr.sta (st.okav O)) _ _ r
    obtain ⟨d, o', rr, u', f1, f2, f3, f4⟩ := hM.to hn e3' (show OR _ _ (.lst xs) (.lst es) from r') q' x
    simp only [f1]
    obtain ⟨s1, s2⟩ := st1.mut O hi e1 f4
    have stay : Sta (av ok env own) ah1 (ah1.set n o') := fun k ob a ek => by
      rw [List.getElem?_set_ne (fun z => hn (by rw [z]; exact a))]; exact ek
    exact (hg rr d _ _ f2 (R.mono (fun _ h => h) stay _ _ f3) s1 (K.set kk (O.three n (O.fresh n e2)))).after ((PreS.ofGrow gr st.bl (fun _ h => h)).trans s2)
def vMtS (own : List Nat) (i : Nat) (pa : VE (List U)) (vf : VMt) : VS := fun Γ S => vMt own i pa vf Γ (fun a f => S.ex a f Γ) fun _ Γ' => S.nx Γ'
def vMtSF (i : Nat) (pa : VE (List U)) (vf : VMt) : VS := fun Γ S => vMtF i pa vf Γ (fun a f => S.ex a f Γ) fun _ Γ' => S.nx Γ'
def vMtA (own : List Nat) (i : Nat) (pa : VE (List U)) (vf : VMt) (j : Nat) : VS := fun Γ S => vMt own i pa vf Γ (fun a f => S.ex a f Γ) fun r Γ' => S.nx (Γ'.set j (some r))
def vMtAF (i : Nat) (pa : VE (List U)) (vf : VMt) (j : Nat) : VS := fun Γ S => vMtF i pa vf Γ (fun a f => S.ex a f Γ) fun r Γ' => S.nx (Γ'.set j (some r))
theorem ls_mt {c i : Nat} {ml : EM (List D)} {pa : VE (List U)} {f : D → List D → AH → Res D} {vf : VMt} (h : LE K RUs c ml pa) (hM : LMt f vf) (hi : own.contains i = true := by rfl) (hE : eok E own = true := by rfl) : LS K F L E c own own (sExpr (eMt (eVar i) ml f)) (vMtS own i pa vf) := ⟨fun {ok b Γ env ah N S} O st kk l x => by
  have hi' : i ∈ own := by simpa using hi
  unfold vMtS vMt at x
  split at x
  · rename_i xs hx
    exact mt_go (k := fun _ Γ' => S.nx Γ') O st hE hi' hM hx (fun _ h => h.1) (h.to (st.okav O) st.clean kk l x) (fun us ds ah' hq r => ⟨r, hq⟩) fun r d ah' Γ' hk q st' kk' => ⟨Γ', hk, st', PreS.ofGrow Grow.refl st'.bl (fun _ h => h), kk'⟩
  · exact x.elim⟩
def vSetL (own : List Nat) (i : Nat) (pi pv : VE U) : VS := fun Γ S => pv (eraseU own Γ) (fun a f => S.ex a f Γ) fun v => pi Γ (fun a f => S.ex a f Γ) fun kd => match Γ[i]?, kd with
  | some (some (.lst xs)), .int q => match ixN xs.length q with
    | some j => S.nx (Γ.set i (some (.lst (xs.set j v))))
    | none => False
  | _, _ => False
def vSetLF (i : Nat) (pi pv : VE U) : VS := fun Γ S => pv Γ (fun a f => S.ex a f Γ) fun v => v.flat = true ∧ pi Γ (fun a f => S.ex a f Γ) fun kd => match Γ[i]?, kd with
  | some (some (.lst xs)), .int q => match ixN xs.length q with
    | some j => S.nx (Γ.set i (some (.lst (xs.set j v))))
    | none => False
  | _, _ => False
def uPut (ks : List Key) (us : List U) (kk : Key) (v : U) : U := if (ks.any fun z => decide (z = kk)) = true then .dK ks ((ks.zip us).map fun p => if p.1 = kk then v else p.2) else .dK (ks ++ [kk]) (us ++ [v])
def vPut (own : List Nat) (i : Nat) (pi pv : VE U) : VS := fun Γ S => pv (eraseU own Γ) (fun a f => S.ex a f Γ) fun v => pi Γ (fun a f => S.ex a f Γ) fun kd => match Γ[i]?, uKey kd with
  | some (some (.dK ks us)), some kk => ks.length < line ∧ S.nx (Γ.set i (some (uPut ks us kk v)))
  | _, _ => False
def vDnew : VE U := fun _ _ k => k (.dK [] [])
def vFn (n ar : Nat) (pb : VS) : List U → ExK → (U → Prop) → Prop := fun us X k => us.length = ar ∧ pb (us.map some ++ List.replicate (n - us.length) none) ⟨fun _ => k .non, k, fun _ => False, fun _ => False, fun a f _ => X a f⟩
abbrev LF (K : Dks) (c : Nat) (m : List D → AH → Res D) (p : List U → ExK → (U → Prop) → Prop) : Prop := LO1 K RUs RU c m p
structure LFN (K : Dks) (c : Nat) (m : List D → AH → Res D) (p : List U → ExK → (U → Prop) → Prop) : Prop where
  to : ∀ {ok : Nat → Prop} {ah : AH} {N : Nat} {X : ExK} {k : U → Prop} {us : List U} {ds : List D}, OkF ok ah → Rs ok ah us ds → K.at' N ah → N + cb c ≤ LIM → p us X k → match m ds ah with
    | .ok d ah' => ∃ u n o, k u ∧ d = .ref n ∧ ah.length ≤ n ∧ ah'[n]? = some o ∧ OR (fun m => ok m ∧ m ≠ n) ah' u o ∧ Grow ah ah' ∧ K.at' (N + cb c) ah'
    | .exn a fs ah' => ∃ f, X a f ∧ RX ok ah' f fs ∧ Grow ah ah' ∧ K.at' (N + cb c) ah'
    | .stuck => False
theorem start {ok : Nat → Prop} {ah : AH} {us : List U} {ds : List D} (r : Rs ok ah us ds) (n : Nat) : StR ok ah.length [] (us.map some ++ List.replicate n none) (ds.map some ++ List.replicate n none) ah :=
  have sh : ∀ (i : Nat) (u : U), i ∉ [] → (us.map some ++ List.replicate n none)[i]? = some (some u) → ∃ d, (ds.map some ++ List.replicate n none)[i]? = some (some d) ∧ R (av ok (ds.map some ++ List.replicate n none) []) ah u d := fun i u _ e => by
    by_cases hi : i < us.length
    · rw [List.getElem?_append_left (by simpa using hi), List.getElem?_map] at e
      cases z : us[i]? with
      | none => rw [z] at e; cases e
      | some w =>
        rw [z] at e
        cases e
        obtain ⟨d, h1, h2⟩ := r.get z
        refine ⟨d, ?_, R.mono (fun n h => ⟨h, fun i hi => absurd hi List.not_mem_nil⟩) Sta.refl _ _ h2⟩
        rw [List.getElem?_append_left (by rw [List.length_map, ← r.len]; exact hi), List.getElem?_map, h1]
        rfl
    · rw [List.getElem?_append_right (by simpa using hi), List.getElem?_replicate] at e
      split at e
      · cases e
      · cases e
  ⟨by simp [r.len], Nat.le_refl _, sh, fun i hi => absurd hi List.not_mem_nil, fun i j n hi => absurd hi List.not_mem_nil⟩
theorem lf_fn {c n ar : Nat} {mb : SM} {pb : VS} (h : LS K false [] none c [] [] mb pb) : LF K c (fnR n ar mb) (vFn n ar pb) := ⟨fun {ok ah N X k us ds} o q kk l x => by
  obtain ⟨hl, x⟩ := x
  have q' : Rs ok ah us ds := q
  have w := h.to (b := ah.length) ⟨o.three, o.fresh⟩ (start q' (n - us.length)) kk l x
  unfold fnR
  rw [if_pos (by rw [← q'.len]; exact hl), ← q'.len]
  cases z : mb (ds.map some ++ List.replicate (n - us.length) none) ah with
  | nx e ah1 => rw [z] at w; obtain ⟨Γ', y1, y2, y3, y4⟩ := w; exact ⟨.non, y1, (show R ok ah1 .non .non by simp only [R]), ⟨y3.len, y3.old⟩, y4⟩
  | rt d ah1 => rw [z] at w; obtain ⟨u, y1, y2, y3, y4⟩ := w; exact ⟨u, y1, y2, ⟨y3.len, y3.old⟩, y4⟩
  | bk e ah1 => rw [z] at w; obtain ⟨Γ', y1, _⟩ := w; exact y1.elim
  | ct e ah1 => rw [z] at w; obtain ⟨Γ', y1, _⟩ := w; exact y1.elim
  | exn a fs e ah1 => rw [z] at w; obtain ⟨f, Γ', y1, y2, _, y4, y5⟩ := w; exact ⟨f, y1, y2, ⟨y4.len, y4.old⟩, y5⟩
  | stuck => rw [z] at w; exact w.elim⟩
def vFnN (n ar : Nat) (pb : VS) : List U → ExK → (U → Prop) → Prop := fun us X k => us.length = ar ∧ pb (us.map some ++ List.replicate (n - us.length) none) ⟨fun _ => False, k, fun _ => False, fun _ => False, fun a f _ => X a f⟩
theorem LFN.weak {c c' : Nat} {m : List D → AH → Res D} {p : List U → ExK → (U → Prop) → Prop} (h : LFN K c m p) (hc : Nat.ble c c' = true := by rfl) : LFN K c' m p := ⟨fun {ok ah N X k us ds} o q kk l x => by
  have hm := cb_mono (Nat.le_of_ble_eq_true hc)
  have w := h.to o q kk (by omega) x
  cases z : m ds ah with
  | ok d ah1 =>
    rw [z] at w
    obtain ⟨u, n, ob, h1, h2, h3, h4, h5, h6, h7⟩ := w
    exact ⟨u, n, ob, h1, h2, h3, h4, h5, h6, K.mono h7 (by omega)⟩
  | exn a fs ah1 => rw [z] at w; obtain ⟨f, h1, h2, h3, h4⟩ := w; exact ⟨f, h1, h2, h3, K.mono h4 (by omega)⟩
  | stuck => rw [z] at w; exact w⟩
theorem LO1.weak {α β γ δ : Type} {Q : Rl α β} {Q' : Rl γ δ} {c c' : Nat} {f : β → AH → Res δ} {p : α → ExK → (γ → Prop) → Prop} (h : LO1 K Q Q' c f p) (hc : Nat.ble c c' = true := by rfl) : LO1 K Q Q' c' f p := ⟨fun o q kk l x =>
  have := cb_mono (Nat.le_of_ble_eq_true hc)
  (h.to o q kk (by omega) x).le (by omega)⟩
theorem le_call0 {c : Nat} {m : List D → AH → Res D} {p : List U → ExK → (U → Prop) → Prop} (h : LF K c m p) : LE K RU c (fun _ ah => m [] ah) (fun _ X k => p [] X k) := ⟨fun {ok Γ env ah N X k} o e kk l x => h.to (a := []) (b := []) o (show Rs ok ah [] [] from Rs.nil) kk l x⟩
end
end HV
namespace HV
open PySem PySem.Spec PyProof.Rows L2 HA
theorem lg_mul {i j : Int} {p q : Nat} (h1 : i.natAbs < 2 ^ p) (h2 : j.natAbs < 2 ^ q) : (i * j).natAbs < 2 ^ (p + q) := by
  rw [Int.natAbs_mul, Nat.pow_add]
  exact Nat.mul_lt_mul'' h1 h2
theorem mulOk_lg {i j : Int} {p q : Nat} (h1 : i.natAbs < 2 ^ p) (h2 : j.natAbs < 2 ^ q) (h : Nat.ble (p + q) 900000 = true) (hp : 0 < p) (hq : 0 < q) : mulOk i j = true := by
  unfold mulOk
  have a := log2_lt hp h1
  have b := log2_lt hq h2
  have c := Nat.le_of_ble_eq_true h
  rw [decide_eq_true_eq]
  omega
theorem oMul_lg {i j : Int} {p q : Nat} (ah : AH) (h1 : i.natAbs < 2 ^ p) (h2 : j.natAbs < 2 ^ q) (h : Nat.ble (p + q) 900000 = true := by rfl) (hp : 0 < p := by decide) (hq : 0 < q := by decide) : oMul (.int i) (.int j) ah = .ok (.int (i * j)) ah := by
  unfold oMul
  simp only
  rw [if_pos (mulOk_lg h1 h2 h hp hq)]
theorem small_lg {i : Int} (h0 : 0 ≤ i) (h : i < 2147483648) : i.natAbs < 2 ^ 31 := by omega
theorem at_lg {a : Int} {n : Nat} (h0 : 0 ≤ a) (h : a ≤ n) (hn : n < 2 ^ 5999) : (a + 1).natAbs < 2 ^ 6000 := by
  have : (2 : Nat) ^ 6000 = 2 ^ 5999 * 2 := Nat.pow_succ (n := 2) (m := 5999)
  rw [this]
  generalize (2 : Nat) ^ 5999 = M at hn ⊢
  omega
theorem draw_tailA2 {s a b : Int} {x0 x3 : Option D} {ah : AH} (h1 : 0 < b) (h3 : 0 ≤ a) (h4 : a.natAbs < 2 ^ 6000) :
    b_tailA [x0, some (.int b), some (.int a), x3, some (.int s), none] ah = .rt (.int (mixA s a b)) ah := by
  unfold mixA b_tailA
  generalize hn1 : (s % 2147483647 * 48271 + 69621 * a * a + 7919) % 2147483629 = n1
  have b1 : 0 ≤ s % 2147483647 := Int.emod_nonneg _ (by decide)
  have b2 : s % 2147483647 < 2147483647 := Int.emod_lt_of_pos _ (by decide)
  have b3 : 0 ≤ n1 := by rw [← hn1]; exact Int.emod_nonneg _ (by decide)
  have b4 : n1 < 2147483629 := by rw [← hn1]; exact Int.emod_lt_of_pos _ (by decide)
  generalize hn2 : n1 * n1 % 2147483587 = n2
  have b5 : 0 ≤ n2 := by rw [← hn2]; exact Int.emod_nonneg _ (by decide)
  have b6 : n2 < 2147483587 := by rw [← hn2]; exact Int.emod_lt_of_pos _ (by decide)
  have c1 : (69621 : Int).natAbs < 2 ^ 17 := by decide
  have d1 := lg_mul c1 h4
  have m1 : oMul (.int (s % 2147483647)) (.int 48271) ah = .ok (.int (s % 2147483647 * 48271)) ah := oMul_lg (q := 16) ah (small_lg b1 (by omega)) (by decide)
  have m2 : oMul (.int 69621) (.int a) ah = .ok (.int (69621 * a)) ah := oMul_lg ah c1 h4
  have m3 : oMul (.int (69621 * a)) (.int a) ah = .ok (.int (69621 * a * a)) ah := oMul_lg ah d1 h4
  have m4 : oMul (.int n1) (.int n1) ah = .ok (.int (n1 * n1)) ah := oMul_lg ah (small_lg b3 (by omega)) (small_lg b3 (by omega))
  have m5 : oMul (.int n2) (.int (n2 + 39373)) ah = .ok (.int (n2 * (n2 + 39373))) ah := oMul_lg (q := 32) ah (small_lg b5 (by omega)) (by omega)
  have q1 : ∀ i : Int, oMod (.int i) (.int 2147483647) ah = .ok (.int (i % 2147483647)) ah := fun i => oMod_int ah (by decide)
  have q2 : ∀ i : Int, oMod (.int i) (.int 2147483629) ah = .ok (.int (i % 2147483629)) ah := fun i => oMod_int ah (by decide)
  have q3 : ∀ i : Int, oMod (.int i) (.int 2147483587) ah = .ok (.int (i % 2147483587)) ah := fun i => oMod_int ah (by decide)
  have q4 : ∀ i : Int, oMod (.int i) (.int 2147483563) ah = .ok (.int (i % 2147483563)) ah := fun i => oMod_int ah (by decide)
  have q5 : ∀ i : Int, oMod (.int i) (.int b) ah = .ok (.int (i % b)) ah := fun i => oMod_int ah h1
  have q6 : ∀ i : Int, oFdiv (.int i) (.int 64) ah = .ok (.int (i / 64)) ah := fun i => oFdiv_int ah (by decide) (by decide)
  simp [q1, m1, m2, m3, q2, hn1, m4, q3, hn2, m5, q4, q6, q5]
theorem drawA2 {n : Nat} {d : Dk} {b : Int} (h : DOk n d) (hn : n < 2 ^ 5999) (h1 : 0 < b) (h2 : b < 2 ^ 1000) : ∃ (v : Nat) (d' : Dk), (∀ S rest, m_drawA [.ref 2, .int b] (hA S d rest) = .ok (.int v) (hA S d' rest)) ∧ (v : Int) < b ∧ DOk (n + 1) d' := by
  have hi' := Dk.drawA_in (d := d) h1
  have eat := Dk.drawA_at (d := d) (b := b)
  have p18 : ∀ ah, oPow (.int 10) (.int 18) ah = .ok (.int (10 ^ 18)) ah := fun ah => oPow_int ah (by decide)
  obtain ⟨len, lo, hi⟩ := h
  refine ⟨(d.drawA b).1.toNat, (d.drawA b).2, fun S rest => ?_, by rw [Int.toNat_of_nonneg hi'.1]; exact hi'.2, ?_, by rw [eat]; omega, by rw [eat]; omega⟩
  · rw [Int.toNat_of_nonneg hi'.1]
    obtain ⟨cells, a, s⟩ := d
    dsimp only at lo hi len
    have la := at_lg lo hi hn
    unfold m_drawA b_drawA
    rw [fnM_2, sSeq_def, hA_put (v := a + 1) (by simp [hA_at]) (by simp)]
    have tl := fun (s : Int) (x0 x3 : Option D) (ah : AH) => draw_tailA2 (s := s) (x0 := x0) (x3 := x3) (ah := ah) h1 (a := a + 1) (by omega) la
    have ci : ∀ (neg : Bool) (cs : List Int) (ah : AH), lNil neg (cs.map D.int) ah = .ok (if cs = [] then !neg else neg) ah := lNil_ints
    cases cells with
    | nil => simp [hA_at, hA_cells, hA_sum, hA_list, ci, tl, hA_fin, Dk.drawA, -List.map_nil]
    | cons c r =>
      have fd : ∀ ah, oFdiv (.int c) (.int b) ah = .ok (.int (c / b)) ah := fun ah => oFdiv_int ah h1 h2
      have md : ∀ ah, oMod (.int c) (.int b) ah = .ok (.int (c % b)) ah := fun ah => oMod_int ah h1
      by_cases hc : (1000000000000000000 : Int) ≤ c
      · simp [hA_at, hA_cells, hA_sum, hA_list, ci, tl, hA_fin, Dk.drawA, hA_isList, hA_pop, p18, hc, fd, md, -List.map_cons]
        rw [hA_ins (d := ⟨r, a + 1, s⟩) (by simp at len; show r.length < 16777216; omega)]
        simp [md, hA_fin]
      · simp [hA_at, hA_cells, hA_sum, hA_list, ci, tl, hA_fin, Dk.drawA, hA_isList, hA_pop, p18, hc, -List.map_cons]
  · unfold Dk.drawA
    cases e : d.cells with
    | nil => simp
    | cons c r =>
      rw [e] at len
      dsimp only
      split <;> (simp at len ⊢; omega)
def dksB : Dks where
  at' N ah := ∃ d S rest, ah = hB S d rest ∧ DOk N d
  len := by rintro N ah ⟨d, S, rest, rfl, _⟩; simp [hB]
  stay := by
    rintro N ah ah' ⟨d, S, rest, rfl, h⟩ h3 hs
    match ah', h3 with
    | x :: y :: z :: r, _ =>
      have a := hs 0 (by decide)
      have b := hs 1 (by decide)
      have c := hs 2 (by decide)
      simp only [hB, List.getElem?_cons_zero, List.getElem?_cons_succ, Option.some.injEq] at a b c
      exact ⟨d, S, r, by rw [a, b, c]; rfl, h⟩
  mono := by rintro N M ah ⟨d, S, rest, rfl, h⟩ hl; exact ⟨d, S, rest, rfl, h.mono hl⟩
def dksA : Dks where
  at' N ah := ∃ d S rest, ah = hA S d rest ∧ DOk N d
  len := by rintro N ah ⟨d, S, rest, rfl, _⟩; simp [hA]
  stay := by
    rintro N ah ah' ⟨d, S, rest, rfl, h⟩ h3 hs
    match ah', h3 with
    | x :: y :: z :: r, _ =>
      have a := hs 0 (by decide)
      have b := hs 1 (by decide)
      have c := hs 2 (by decide)
      simp only [hA, List.getElem?_cons_zero, List.getElem?_cons_succ, Option.some.injEq] at a b c
      exact ⟨d, S, r, by rw [a, b, c]; rfl, h⟩
  mono := by rintro N M ah ⟨d, S, rest, rfl, h⟩ hl; exact ⟨d, S, rest, rfl, h.mono hl⟩
def vDraw : List U → ExK → (U → Prop) → Prop
  | [.ref 2, .int b], _, k => (0 < b ∧ b < 2 ^ 250) ∧ ∀ v : Nat, (v : Int) < b → k (.int v)
  | _, _, _ => False
theorem lim_lt {N : Nat} (h : N + cb 1 ≤ LIM) : N < 2 ^ 5999 := by
  unfold LIM at h
  have : (2 : Nat) ^ 5000 ≤ 2 ^ 5999 := Nat.pow_le_pow_right (by decide) (by decide)
  have c : cb 1 = 2 := rfl
  rw [c] at h
  generalize (2 : Nat) ^ 5000 = M at *
  generalize (2 : Nat) ^ 5999 = M' at *
  omega
theorem hA_grow {S : List D} {d d' : Dk} {rest : AH} : Grow (hA S d rest) (hA S d' rest) := ⟨Nat.le_refl _, fun n h3 hn => by
  obtain ⟨m, rfl⟩ : ∃ m, n = m + 3 := ⟨n - 3, by omega⟩
  rfl⟩
theorem lf_drawA : LF dksA 1 m_drawA vDraw := ⟨fun {ok ah N X k us ds} o q kk l x => by
  change Rs ok ah us ds at q
  unfold vDraw at x
  split at x
  · simp only [Rs, R] at q
    obtain ⟨d, es, rfl, rfl, d2, es2, rfl, rfl, rfl⟩ := q
    obtain ⟨d, S, rest, rfl, h⟩ := kk
    obtain ⟨⟨x1, x2⟩, x⟩ := x
    obtain ⟨v, d', h1, h2, h3⟩ := drawA2 h (lim_lt l) x1 (Int.lt_trans x2 (by decide +kernel))
    rw [h1]
    exact ⟨_, x v h2, (show R ok (hA S d' rest) (.int v) (.int v) by simp only [R]), hA_grow, d', S, rest, rfl, h3.mono (by have c : cb 1 = 2 := rfl; rw [c]; omega)⟩
  · exact x.elim⟩
def TrueK : SK := ⟨fun _ => False, fun u => u = .bl true, fun _ => False, fun _ => False, fun _ _ _ => False⟩
end HV
namespace HV
open PySem PySem.Spec PyProof.Rows L2 HA
def vCal (pa : VE (List U)) (f : List U → ExK → (U → Prop) → Prop) : VE U := v1 pa f
section
variable {K : Dks}
def vMaxD : List U → List U → ExK → (U → Prop) → Prop
  | [.lst us], [.int d], _, k => match optAll uInt us with
    | some ns => k (.int (maxOf ns d))
    | none => False
  | _, _, _, _ => False
def RPr : Rl (List (U × U)) (List (D × D)) := ⟨fun ok ah us ds => Rs ok ah (us.map (·.1)) (ds.map (·.1)) ∧ Rs ok ah (us.map (·.2)) (ds.map (·.2)), fun {ok ok' ah ah' a b} h1 h2 h => ⟨Rs.mono h1 h2 (a.map (·.1)) (b.map (·.1)) h.1, Rs.mono h1 h2 (a.map (·.2)) (b.map (·.2)) h.2⟩⟩
def vPairs : List (VE U × VE U) → VE (List (U × U))
  | [] => fun _ _ k => k []
  | (a, b) :: r => fun Γ X k => a Γ X fun x => b Γ X fun y => vPairs r Γ X fun ps => k ((x, y) :: ps)
def uDisp : List (Key × U) → List Key → List U → U
  | [], ks, us => .dK ks us
  | (kk, u) :: r, ks, us => match uPut ks us kk u with
    | .dK ks' us' => uDisp r ks' us'
    | a => a
def vDisp (l : List (VE U × VE U)) : VE U := fun Γ X k => vPairs l Γ X fun ps => match optAll (fun p => (uKey p.1).map fun kk => (kk, p.2)) ps with
  | some kvs => kvs.length ≤ 15 ∧ k (uDisp kvs [] [])
  | none => False
end
end HV
namespace HV
open PySem PySem.Spec PyProof.Rows L2 HA
section
variable {K : Dks}
def uItems : U → List U
  | .lst us => us
  | _ => []
def flatU (yss : List U) : List U := (yss.map uItems).flatten
def vInn (pi1 : VE (List U)) (vt1 : VTM) (pt1 : VE Bool) (pe : VE U) (vs1 : List Nat) : VE U := fun Γ X k => pi1 Γ XF fun us1 => us1.length ≤ 4096 ∧ vLcL vt1 pt1 pe (wipeU Γ vs1) us1 fun ys => k (.lst ys)
def vLc2 (pi : VE (List U)) (vt : VTM) (pt : VE Bool) (pi1 : VE (List U)) (vt1 : VTM) (pt1 : VE Bool) (pe : VE U) (vs vs1 : List Nat) : VE U := fun Γ X k => pi Γ X fun us => us.length ≤ 4096 ∧ vLcL vt pt (vInn pi1 vt1 pt1 pe vs1) (wipeU Γ vs) us fun yss => k (.lst (flatU yss))
structure GrowX (n : Nat) (ah ah' : AH) : Prop where
  len : ah.length ≤ ah'.length
  same : ∀ m, 3 ≤ m → m ≠ n → m < ah.length → ah'[m]? = ah[m]?
theorem GrowX.of {n : Nat} {ah ah' : AH} (g : Grow ah ah') : GrowX n ah ah' := ⟨g.len, fun m h3 _ hm => g.same m h3 hm⟩
theorem GrowX.trans {n : Nat} {a b c : AH} (h : GrowX n a b) (k : GrowX n b c) : GrowX n a c := ⟨Nat.le_trans h.len k.len, fun m h3 hn hm => (k.same m h3 hn (Nat.lt_of_lt_of_le hm h.len)).trans (h.same m h3 hn hm)⟩
theorem GrowX.set {n : Nat} {ah : AH} {o : AObj} : GrowX n ah (ah.set n o) := ⟨by rw [List.length_set]; exact Nat.le_refl _, fun m _ hn _ => List.getElem?_set_ne (fun e => hn e.symm)⟩
theorem GrowX.sta {ok : Nat → Prop} {n : Nat} {ah ah' : AH} (g : GrowX n ah ah') (h : OkF ok ah) (hn : ¬ ok n) : Sta ok ah ah' := fun m o hm e => by
  rw [g.same m (h.three m hm) (fun z => hn (z ▸ hm)) (List.getElem?_eq_some_iff.mp e).1]; exact e
theorem EnvR.sta {ok : Nat → Prop} {ah ah' : AH} {Γ : UEnv} {env : HA.Env} (h : EnvR ok ah Γ env) (s : Sta ok ah ah') : EnvR ok ah' Γ env := ⟨h.len, fun i u e => let ⟨d, e1, r⟩ := h.at' i u e; ⟨d, e1, R.mono (fun _ h => h) s _ _ r⟩⟩
def MkR (K : Dks) (ok : Nat → Prop) (n : Nat) (ah : AH) (N : Nat) (k : List U → Prop) : Option AH → Prop
  | some ah' => ∃ ys acc, k ys ∧ ah'[n]? = some (.lst acc) ∧ Rs ok ah' ys acc ∧ GrowX n ah ah' ∧ K.at' N ah'
  | none => False
theorem MkR.le {ok : Nat → Prop} {n : Nat} {ah : AH} {N M : Nat} {k : List U → Prop} {r : Option AH} (h : MkR K ok n ah N k r) (hM : N ≤ M) : MkR K ok n ah M k r := by
  cases r with
  | none => exact h
  | some a => obtain ⟨ys, acc, h1, h2, h3, h4, h5⟩ := h; exact ⟨ys, acc, h1, h2, h3, h4, K.mono h5 hM⟩
theorem MkR.after {ok : Nat → Prop} {n : Nat} {ah ah1 : AH} {N : Nat} {k : List U → Prop} {r : Option AH} (h : MkR K ok n ah1 N k r) (g : GrowX n ah ah1) : MkR K ok n ah N k r := by
  cases r with
  | none => exact h
  | some a => obtain ⟨ys, acc, h1, h2, h3, h4, h5⟩ := h; exact ⟨ys, acc, h1, h2, h3, g.trans h4, h5⟩
theorem MkR.weak {ok : Nat → Prop} {n : Nat} {ah : AH} {N : Nat} {k k' : List U → Prop} {r : Option AH} (h : MkR K ok n ah N k r) (hk : ∀ ys, k ys → k' ys) : MkR K ok n ah N k' r := by
  cases r with
  | none => exact h
  | some a => obtain ⟨ys, acc, h1, h2⟩ := h; exact ⟨ys, acc, hk _ h1, h2⟩
def uSeq : U → Option (List U)
  | .tup us => some us
  | .lst us => some us
  | _ => none
def vZip (st : Bool) (u v : U) (_ : ExK) (k : List U → Prop) : Prop := match uSeq u, uSeq v with
  | some xs, some ys => (st = true → xs.length = ys.length) ∧ k ((xs.zip ys).map fun p => .tup [p.1, p.2])
  | _, _ => False
theorem Rs.pairs {ok : Nat → Prop} {ah : AH} : ∀ {us vs : List U} {ds es : List D}, Rs ok ah us ds → Rs ok ah vs es → Rs ok ah ((us.zip vs).map fun p => .tup [p.1, p.2]) (pairsD ds es)
  | [], vs, ds, es, h, t => by simp only [Rs] at h; subst h; simpa [pairsD] using Rs.nil
  | u :: us, [], ds, es, h, t => by simp only [Rs] at t; subst t; simpa [pairsD] using Rs.nil
  | u :: us, v :: vs, ds, es, h, t => by
    simp only [Rs] at h t
    obtain ⟨d, ds, rfl, q, r⟩ := h
    obtain ⟨e, es, rfl, q', r'⟩ := t
    exact Rs.cons (by simp only [R]; exact ⟨_, rfl, Rs.cons q (Rs.cons q' Rs.nil)⟩) (Rs.pairs r r')
theorem part_R {ok : Nat → Prop} {ah : AH} {u : U} {d : D} {us : List U} (h : R ok ah u d) (e : uSeq u = some us) : ∃ ds g, partOf d ah = some (ds, g) ∧ Rs ok ah us ds ∧ ∀ p, p ∈ g → ok p.1 ∧ ah[p.1]? = some (.lst p.2) := by
  unfold uSeq at e
  split at e
  · cases e
    simp only [R] at h
    obtain ⟨ds, rfl, r⟩ := h
    exact ⟨ds, [], rfl, r, fun p hp => by cases hp⟩
  · cases e
    simp only [R] at h
    obtain ⟨n, ds, rfl, on, q, r⟩ := h
    refine ⟨ds, [(n, ds)], ?_, r, fun p hp => by simp only [List.mem_singleton] at hp; subst hp; exact ⟨on, q⟩⟩
    unfold partOf HA.listAt
    simp only [q]
    rfl
  · cases e
theorem lo_zip (st : Bool) : LO2 K RU RU RIt (iZipD st) (vZip st) := ⟨fun {ok ah N X k a b a' b'} o q q' kk x => by
  change R ok ah a b at q
  change R ok ah a' b' at q'
  unfold vZip at x
  split at x
  · rename_i xs ys e1 e2
    obtain ⟨ds, g, p1, r1, g1⟩ := part_R q e1
    obtain ⟨es, g', p2, r2, g2⟩ := part_R q' e2
    unfold iZipD
    rw [p1, p2]
    simp only
    rw [if_neg (by rintro ⟨h, hne⟩; exact hne (by rw [← r1.len, ← r2.len]; exact x.1 h))]
    exact .okI x.2 ⟨Rs.pairs r1 r2, fun p hp => (List.mem_append.mp hp).elim (g1 p) (g2 p)⟩ kk
  · exact x.elim⟩
def uPair : U → Option (Int × Int)
  | .tup [.int a, .int b] => some (a, b)
  | _ => none
def uOfPair (p : Int × Int) : U := .tup [.int p.1, .int p.2]
def vSort (us : List U) (_ : ExK) (k : List U → Prop) : Prop := match optAll uInt us with
  | some ns => k ((ns.mergeSort intLe).map U.int)
  | none => match optAll uPair us with
    | some ps => k ((ps.mergeSort lexLe).map uOfPair)
    | none => False
end
end HV
namespace HV
open PySem PySem.Spec PyProof.Rows L2 HA
section
variable {K : Dks} {F : Bool} {L : List Nat} {E : Option (List Nat)} {own own' own1 own2 : List Nat}
def vCD (t : CTab) : U → ExK → (U → Prop) → Prop
  | .str z, _, k => match t.lookup z with
    | some d => k (toU d)
    | none => False
  | _, _, _ => False
theorem lo_cd {t : CTab} : LO1 K RU RU 0 (oCD t) (vCD t) := ⟨fun {ok ah N X k a b} o q kk l x => by
  change R ok ah a b at q
  unfold vCD at x
  split at x
  · simp only [R] at q
    subst q
    unfold oCD
    split at x
    · rename_i d h
      simp only [h]
      exact .okI x (R_toU d) kk
    · exact x.elim
  · exact x.elim⟩
abbrev VTab := List (Str × (List U → ExK → (U → Prop) → Prop))
inductive TabR (K : Dks) (c : Nat) : MTab → VTab → Prop
  | nil : TabR K c [] []
  | cons {f : Str} {m : List D → AH → Res D} {p : List U → ExK → (U → Prop) → Prop} {t : MTab} {v : VTab} (h : LF K c m p) (r : TabR K c t v) : TabR K c ((f, m) :: t) ((f, p) :: v)
theorem TabR.look {c : Nat} {f : Str} {p : List U → ExK → (U → Prop) → Prop} : ∀ {t : MTab} {v : VTab}, TabR K c t v → v.lookup f = some p → ∃ m, t.lookup f = some m ∧ LF K c m p
  | _, _, .nil, h => by simp at h
  | _, _, .cons (f := g) h0 r, h => by
    rw [List.lookup_cons] at h ⊢
    split at h
    · cases h; exact ⟨_, by simp [*], h0⟩
    · obtain ⟨m, e, z⟩ := r.look h
      exact ⟨m, by simp [*], z⟩
def vCallL (i : Nat) (t : VTab) (pa : VE (List U)) : VE U := fun Γ X k => match Γ[i]? with
  | some (some (.glo f)) => match t.lookup f with
    | some p => pa Γ X fun us => p us X k
    | none => False
  | _ => False
theorem pick_Rs2 {ok : Nat → Prop} {ah : AH} {us ws : List U} {ds fs : List D} (r : Rs ok ah us ds) (r2 : Rs ok ah ws fs) : ∀ π : List Nat, Rs ok ah (pick π us ws) (pick π ds fs)
  | [] => Rs.nil
  | i :: π => by
    unfold pick
    simp only [List.filterMap_cons]
    have ih := pick_Rs2 r r2 π
    unfold pick at ih
    have ra := r.app r2
    cases z : (us ++ ws)[i]? with
    | none =>
      have : (ds ++ fs)[i]? = none := by rw [List.getElem?_eq_none_iff] at z ⊢; rw [← ra.len]; exact z
      rw [this]
      exact ih
    | some u =>
      obtain ⟨d, h1, h2⟩ := ra.get z
      rw [h1]
      exact Rs.cons h2 ih
def vCal2 (pa pb : VE (List U)) (f : List U → List U → ExK → (U → Prop) → Prop) : VE U := v2 pa pb f
structure LF2 (K : Dks) (c : Nat) (m : List D → List D → AH → Res D) (p : List U → List U → ExK → (U → Prop) → Prop) : Prop where
  to : ∀ {ok : Nat → Prop} {ah : AH} {N : Nat} {X : ExK} {k : U → Prop} {us ws : List U} {ds fs : List D}, OkF ok ah → Rs ok ah us ds → Rs ok ah ws fs → K.at' N ah → N + cb c ≤ LIM → p us ws X k → PR K ok ah (N + cb c) RU X k (m ds fs ah)
theorem le_call2 {c c' c2 : Nat} {ml mk : EM (List D)} {pa pb : VE (List U)} {m : List D → List D → AH → Res D} {p : List U → List U → ExK → (U → Prop) → Prop} (h : LE K RUs c ml pa) (h' : LE K RUs c' mk pb) (hf : LF2 K c2 m p) : LE K RU (sq c (sq c' c2)) (e2 ml mk m) (vCal2 pa pb p) := ⟨fun {ok Γ env ah N X k} o e kk l x => by
  have s := cb_sq c (sq c' c2)
  have s' := cb_sq c' c2
  refine PR.bind (h.to o e kk (by omega) x) (Nat.add_le_add_left (cb_left c _) N) fun a b ah' ka q g k2 => ?_
  refine PR.bind (h'.to (o.grow g) (e.grow o g) k2 (by omega) ka) (by omega) fun a' b' ah2 ka2 q2 g2 k3 => ?_
  exact (hf.to ((o.grow g).grow g2) (Rs.grow q (o.grow g) g2) q2 k3 (by omega) ka2).le (by omega)⟩
def vFld (f : Str) : U → ExK → (U → Prop) → Prop
  | .ins _ fs us, _, k => match (fs.zip us).lookup f with
    | some u => k u
    | none => False
  | _, _, _ => False
def vFldC (C : List (Str × List Str)) (f : Str) : U → ExK → (U → Prop) → Prop
  | .ins c fs us, X, k => (match C.lookup c with
    | some l => f ∈ l
    | none => False) ∧ vFld f (.ins c fs us) X k
  | _, _, _ => False
theorem look_Rs {ok : Nat → Prop} {ah : AH} {f : Str} {u : U} : ∀ {us : List U} {kvs : List (Str × D)}, Rs ok ah us (kvs.map (·.2)) → ((kvs.map (·.1)).zip us).lookup f = some u → ∃ d, kvs.lookup f = some d ∧ R ok ah u d
  | [], kvs, r, h => by simp at h
  | u0 :: us, [], r, h => by simp at h
  | u0 :: us, (g, d0) :: kvs, r, h => by
    simp only [List.map_cons, Rs, List.cons.injEq] at r
    obtain ⟨_, _, ⟨rfl, rfl⟩, q, r⟩ := r
    simp only [List.map_cons, List.zip_cons_cons] at h
    rw [List.lookup_cons] at h ⊢
    split at h
    · cases h; exact ⟨d0, by simp [*], q⟩
    · obtain ⟨d, e, z⟩ := look_Rs r h
      exact ⟨d, by simp [*], z⟩
theorem lo_fld {C : List (Str × List Str)} {f : Str} : LO1 K RU RU 0 (oFld C f) (vFldC C f) := ⟨fun {ok ah N X k a b} o q kk l x => by
  change R ok ah a b at q
  unfold vFldC at x
  split at x
  · rename_i c fs us
    obtain ⟨x1, x2⟩ := x
    simp only [R] at q
    obtain ⟨n, kvs, rfl, hn, e, rfl, r⟩ := q
    unfold vFld at x2
    simp only at x2
    split at x2
    · rename_i u hu
      obtain ⟨d, h1, h2⟩ := look_Rs r hu
      unfold oFld
      simp only [e]
      split at x1
      · rename_i l hl
        simp only [hl, if_pos x1, h1]
        exact .okI x2 h2 kk
      · exact x1.elim
    · exact x2.elim
  · exact x.elim⟩
def vRaise (x f : Str) (pa : VE (List U)) : VS := fun Γ S => pa Γ (fun a g => S.ex a g Γ) fun us => us.length = 1 ∧ S.ex x (some ([f], us)) Γ
theorem ls_raise {c : Nat} {x f : Str} {ml : EM (List D)} {pa : VE (List U)} (h : LE K RUs c ml pa) (hE : eok E own = true := by rfl) : LS K F L E c own own' (sRaise x f ml) (vRaise x f pa) := ⟨fun {ok b Γ env ah N S} O st kk l x =>
  PSR.expr O st hE (fun _ h => h) (h.to (st.okf O) (st.toEnv O) kk l x) (Nat.le_refl _) fun a d ah' ka q g st' kk' => by
    obtain ⟨h1, h2⟩ := ka
    match a, h1, q with
    | [u], _, q =>
      have q' : Rs ok ah' [u] d := q
      simp only [Rs] at q'
      obtain ⟨d1, es, rfl, r1, rfl⟩ := q'
      refine ⟨_, Γ, h2, ⟨[(f, d1)], rfl, rfl, Rs.cons r1 Rs.nil⟩, fun ow ho => ?_, ⟨Nat.le_refl _, fun _ _ _ => rfl⟩, kk'⟩
      subst ho
      exact ⟨st'.drop O (eok_sub hE), PreS.ofGrow Grow.refl st'.bl (eok_sub hE)⟩⟩
def xvU : EF → U
  | none => .xv 0 0 [] []
  | some (ks, us) => .xv 0 0 ks us
def flatF : EF → Bool
  | none => true
  | some (_, us) => U.flats us
structure VHnd where
  c : Str
  i : Option Nat
  p : Str → Bool → VS
def vSui (i : Option Nat) (p : VS) (f : EF) : VS := fun Γ S => match i with
  | none => p Γ ⟨S.nx, S.rt, S.bk, S.ct, fun _ _ _ => False⟩
  | some i => p (Γ.set i (some (xvU f))) ⟨fun Γ' => S.nx (Γ'.set i none), S.rt, fun Γ' => S.bk (Γ'.set i none), fun Γ' => S.ct (Γ'.set i none), fun _ _ _ => False⟩
def vHnd (t : STab) : List VHnd → Str → EF → VS
  | [], c, f => fun Γ S => S.ex c f Γ
  | h :: r, c, f => fun Γ S => match sLook t c h.c with
    | some true => vSui h.i (h.p c (Option.isSome f)) f Γ S
    | some false => vHnd t r c f Γ S
    | none => False
def vTry (ow : List Nat) (t : STab) (p : VS) (l : List VHnd) : VS := fun Γ S => p Γ ⟨S.nx, S.rt, S.bk, S.ct, fun c f Γ' => (ow ≠ [] → flatF f = true) ∧ vHnd t l c f Γ' S⟩
section
variable {ok : Nat → Prop} {b : Nat} {Γ : UEnv} {env : HA.Env} {ah : AH}
theorem StR.unset (S : StR ok b own Γ env ah) {i : Nat} (hi : i ∉ own) : StR ok b own (Γ.set i none) (env.set i none) ah := by
  have up : ∀ n, av ok env own n → av ok (env.set i none) own n := fun n a => ⟨a.1, fun j hj e => by
    by_cases h : i = j
    · exact hi (h ▸ hj)
    · rw [List.getElem?_set_ne h] at e; exact a.2 j hj e⟩
  have ne : ∀ j, j ∈ own → i ≠ j := fun j hj z => hi (z ▸ hj)
  refine ⟨by simp [S.len], S.bl, fun j u hj e => ?_, fun j hj => ?_, fun j k n hj hk e1 e2 => ?_⟩
  · by_cases h : i = j
    · subst h
      by_cases hl : i < Γ.length
      · rw [List.getElem?_set_self hl] at e; cases e
      · rw [List.getElem?_eq_none (by simpa using hl)] at e; cases e
    · rw [List.getElem?_set_ne h] at e
      obtain ⟨d, e1, r⟩ := S.sh j u hj e
      exact ⟨d, by rw [List.getElem?_set_ne h]; exact e1, R.mono up Sta.refl _ _ r⟩
  · obtain ⟨n, o, u, e1, e2, e3, e4, e5⟩ := S.ow j hj
    exact ⟨n, o, u, by rw [List.getElem?_set_ne (ne j hj)]; exact e1, e2, e3, by rw [List.getElem?_set_ne (ne j hj)]; exact e4, e5.mono up Sta.refl⟩
  · rw [List.getElem?_set_ne (ne j hj)] at e1
    rw [List.getElem?_set_ne (ne k hk)] at e2
    exact S.inj j k n hj hk e1 e2
theorem PreS.unset {own0 : List Nat} {env0 : HA.Env} {ah0 : AH} (p : PreS b own0 env0 ah0 own env ah) {i : Nat} (hi : i ∉ own) : PreS b own0 env0 ah0 own (env.set i none) ah :=
  ⟨p.len, p.same, p.old, fun j n hj e hn => by
    by_cases h : i = j
    · exact absurd (h ▸ hj) hi
    · rw [List.getElem?_set_ne h] at e; exact p.refs j n hj e hn⟩
end
def LSui (K : Dks) (F : Bool) (L : List Nat) (c0 : Nat) (ow own' : List Nat) (i : Option Nat) (m : SuiM) (p : Str → Bool → VS) : Prop :=
  ∀ (c : Str) (od : Option Addr), (∀ x, od = some x → x = 0) → LS K F L none c0 ow own' (m 0 od c) (p c od.isSome)
inductive LHs (K : Dks) (F : Bool) (L : List Nat) (c0 : Nat) (ow own' : List Nat) : List Hnd → List VHnd → Prop
  | nil : LHs K F L c0 ow own' [] []
  | one {C : Str} {m : SuiM} {p : Str → Bool → VS} {l : List Hnd} {v : List VHnd} (h : LSui K F L c0 ow own' none m p) (r : LHs K F L c0 ow own' l v) : LHs K F L c0 ow own' (⟨C, none, m⟩ :: l) (⟨C, none, p⟩ :: v)
  | named {C : Str} {i : Nat} {m : SuiM} {p : Str → Bool → VS} {l : List Hnd} {v : List VHnd} (h : LSui K F L c0 ow own' (some i) m p) (hi : ow.contains i = false) (hi' : own'.contains i = false) (hL : L.contains i = false) (r : LHs K F L c0 ow own' l v) : LHs K F L c0 ow own' (⟨C, some i, m⟩ :: l) (⟨C, some i, p⟩ :: v)
def vXf (cs : List Str) (c f : Str) (b : Bool) : U → ExK → (U → Prop) → Prop
  | .xv 0 0 ks us, _, k => (b = true ∧ c ∈ cs) ∧ match (ks.zip us).lookup f with
    | some u => k u
    | none => False
  | _, _, _ => False
def uD : U → Option D
  | .glo x => some (.glo x)
  | .cst v => some (.cst v)
  | _ => none
def vXis (tab : XTab) (c : Str) (b : Bool) : List U → ExK → (U → Prop) → Prop
  | [.xv 0 0 ks _, .tup us], _, k => (b = true → ks ≠ []) ∧ match optAll uD us with
    | some ds => ((ds.all fun d => (xLook tab c d).isSome) = true ∧ ds ≠ []) ∧ match xAny tab c ds with
      | some r => k (.bl r)
      | none => False
    | none => False
  | [.xv 0 0 ks _, u], _, k => (b = true → ks ≠ []) ∧ match uD u with
    | some d => match xLook tab c d with
      | some r => k (.bl r)
      | none => False
    | none => False
  | _, _, _ => False
def numU : Nat → List U → List U
  | _, [] => []
  | i, u :: us => .tup [.int i, u] :: numU (i + 1) us
def vEnum (u : U) (_ : ExK) (k : List U → Prop) : Prop := match uSeq u with
  | some us => k (numU 0 us)
  | none => False
def vIndexS : U → List U → ExK → (U → Prop) → Prop
  | .str a, [.str b], _, k => match strIx a b with
    | some i => k (.int i)
    | none => False
  | _, _, _, _ => False
def vMs (pm : VE U) (pa : VE (List U)) (f : U → List U → ExK → (U → Prop) → Prop) : VE U := fun Γ X k => pm Γ X fun u => (∃ x, u = .str x) ∧ pa Γ X fun us => f u us X k
structure LOM (K : Dks) (f : D → List D → AH → Res D) (p : U → List U → ExK → (U → Prop) → Prop) : Prop where
  to : ∀ {ok : Nat → Prop} {ah : AH} {N : Nat} {X : ExK} {k : U → Prop} {u : U} {us : List U} {d : D} {ds : List D}, OkF ok ah → R ok ah u d → Rs ok ah us ds → K.at' N ah → p u us X k → PR K ok ah N RU X k (f d ds ah)
theorem le_ms {c c' : Nat} {mo : EM D} {pm : VE U} {ml : EM (List D)} {pa : VE (List U)} {f : D → List D → AH → Res D} {p : U → List U → ExK → (U → Prop) → Prop} (h : LE K RU c mo pm) (h' : LE K RUs c' ml pa) (hf : LOM K f p) : LE K RU (sq c c') (eMs mo ml f) (vMs pm pa p) := ⟨fun {ok Γ env ah N X k} o e kk l x => by
  have s := cb_sq c c'
  refine PR.bind (h.to o e kk (by omega) x) (Nat.add_le_add_left (cb_left c _) N) fun a b ah' ka q g k2 => ?_
  obtain ⟨⟨y, rfl⟩, ka⟩ := ka
  have q1 : R ok ah' (.str y) b := q
  simp only [R] at q1
  subst q1
  show PR K ok ah' (N + cb (sq c c')) RU X k (if isStrD (.str y) = true then _ else _)
  rw [if_pos (show isStrD (.str y) = true from rfl)]
  refine PR.bind ((h'.to (o.grow g) (e.grow o g) k2 (by omega) ka).le (M := N + cb (sq c c')) (by omega)) (Nat.le_refl _) fun us ds ah2 ka2 q2 g2 k3 => ?_
  exact hf.to ((o.grow g).grow g2) (by simp only [R]) q2 k3 ka2⟩
end
end HV
namespace HV
open PySem PySem.Spec PyProof.Rows L2 HA
section
variable {K : Dks} {F : Bool} {L : List Nat} {E : Option (List Nat)} {own own' own1 own2 : List Nat}
def putK (f : Str) : List Str → List Str
  | [] => [f]
  | g :: r => if g = f then g :: r else g :: putK f r
def putV (f : Str) (v : U) : List Str → List U → List U
  | [], _ => [v]
  | g :: r, us => match us with
    | [] => []
    | u :: us => if g = f then v :: us else u :: putV f v r us
theorem put_keys (f : Str) (v : D) : ∀ kvs : List (Str × D), (putFd f v kvs).map (·.1) = putK f (kvs.map (·.1))
  | [] => rfl
  | (g, x) :: r => by
    unfold putFd
    simp only [List.map_cons, putK]
    by_cases h : g = f
    · rw [if_pos h, if_pos h]; rfl
    · rw [if_neg h, if_neg h, List.map_cons, put_keys f v r]
theorem put_vals {ok : Nat → Prop} {ah : AH} {f : Str} {v : U} {d : D} (q : R ok ah v d) : ∀ {kvs : List (Str × D)} {us : List U}, Rs ok ah us (kvs.map (·.2)) → Rs ok ah (putV f v (kvs.map (·.1)) us) ((putFd f d kvs).map (·.2))
  | [], us, r => Rs.cons q Rs.nil
  | (g, x) :: kvs, [], r => by simp [Rs] at r
  | (g, x) :: kvs, u :: us, r => by
    simp only [List.map_cons, Rs, List.cons.injEq] at r
    obtain ⟨_, _, ⟨rfl, rfl⟩, r1, r2⟩ := r
    unfold putFd
    simp only [List.map_cons, putV]
    by_cases h : g = f
    · rw [if_pos h, if_pos h]; exact Rs.cons q r2
    · rw [if_neg h, if_neg h, List.map_cons]; exact Rs.cons r1 (put_vals q r2)
def hasF (C : List (Str × List Str)) (c f : Str) : Bool := match C.lookup c with
  | some l => l.contains f
  | none => false
def vFldS (C : List (Str × List Str)) (own : List Nat) (i : Nat) (f : Str) (pv : VE U) : VS := fun Γ S => pv (eraseU own Γ) (fun a g => S.ex a g Γ) fun v => match Γ[i]? with
  | some (some (.ins c fs us)) => (hasF C c f = true ∧ fs.length < 1000) ∧ S.nx (Γ.set i (some (.ins c (putK f fs) (putV f v fs us))))
  | _ => False
theorem ls_fld {c i : Nat} {C : List (Str × List Str)} {f : Str} {mv : EM D} {pv : VE U} (h : LE K RU c mv pv) (hi : own.contains i = true := by rfl) (hE : eok E own = true := by rfl) : LS K F L E c own own (sFldS C (eVar i) mv f) (vFldS C own i f pv) := ⟨fun {ok b Γ env ah N S} O st kk l x => by
  have hi' : i ∈ own := by simpa using hi
  refine PSR.expr O st hE (fun _ h => h.1) (h.to (st.okav O) st.clean kk l x) (Nat.le_refl _) fun a d ah' ka q g st' kk' => ?_
  have q : R (av ok env own) ah' a d := q
  split at ka
  · rename_i cc fs us hg
    obtain ⟨⟨k1, k2⟩, ka⟩ := ka
    obtain ⟨n, o, u, e1, e2, e3, e4, e5⟩ := st'.ow i hi'
    rw [hg] at e4
    cases e4
    cases o with
    | ins c2 kvs =>
      obtain ⟨rfl, rfl, e5⟩ := e5
      have ev : eVar i env ah' = .ok (.ref n) ah' := by unfold eVar; rw [e1]
      rw [ev, Res.thenS_ok]
      dsimp only
      rw [e3]
      dsimp only
      unfold hasF at k1
      split at k1
      · rename_i lf hl
        try rw [hl]
        try dsimp only
        rw [if_pos ⟨by simpa using k1, by simpa using k2⟩]
        have hor : OR (av ok env own) ah' (.ins cc (putK f (kvs.map (·.1))) (putV f a (kvs.map (·.1)) us)) (.ins cc (putFd f d kvs)) := ⟨rfl, put_keys f d kvs, put_vals q e5⟩
        obtain ⟨s1, s2⟩ := st'.mut O hi' e1 hor
        exact ⟨_, ka, s1, s2, K.set kk' (O.three n (O.fresh n e2))⟩
      · cases k1
    | _ => exact e5.elim
  · exact ka.elim⟩
def Kp : HA.Env → SRes → Prop
  | env, .nx e _ => e[0]? = env[0]?
  | env, .bk e _ => e[0]? = env[0]?
  | env, .ct e _ => e[0]? = env[0]?
  | _, _ => True
def K0 (m : SM) : Prop := ∀ env ah, Kp env (m env ah)
def T0 (t : TM) : Prop := ∀ d env ah e, t d env ah = some e → e[0]? = env[0]?
def T0s (t : List D → HA.Env → AH → Option HA.Env) : Prop := ∀ d env ah e, t d env ah = some e → e[0]? = env[0]?
theorem kp_then {α : Type} {r : Res α} {env : HA.Env} {f : α → AH → SRes} (h : ∀ a ah, Kp env (f a ah)) : Kp env (r.thenS env f) := by
  cases r with
  | ok a ah => exact h a ah
  | exn c fs ah => trivial
  | stuck => trivial
theorem k0_skip : K0 sSkip := fun _ _ => rfl
theorem k0_raise {x f : Str} {ml : EM (List D)} : K0 (sRaise x f ml) := fun _ _ => kp_then fun a _ => by split <;> trivial
theorem k0_fld {C : List (Str × List Str)} {mo mv : EM D} {f : Str} : K0 (sFldS C mo mv f) := fun env ah => kp_then fun a ah1 => kp_then fun b ah2 => by
  split
  · split
    · split
      · split <;> first | rfl | trivial
      · trivial
    · trivial
  · trivial
theorem k0_seq {a b : SM} (h : K0 a) (k : K0 b) : K0 (sSeq a b) := fun env ah => by
  have z := h env ah
  unfold sSeq
  cases e : a env ah with
  | nx e1 h1 =>
    rw [e] at z
    have w := k e1 h1
    dsimp only
    cases e2 : b e1 h1 <;> rw [e2] at w <;> first | trivial | exact w.trans z
  | _ => rw [e] at z; exact z
theorem k0_if {c : EM Bool} {a b : SM} (h : K0 a) (k : K0 b) : K0 (sIf c a b) := fun env ah => kp_then fun x ah1 => by
  split
  · exact h env ah1
  · exact k env ah1
theorem t0_set (i : Nat) (h : (0 == i) = false := by rfl) : T0 (gSet i) := fun d env ah e q => by
  cases q
  have hi : i ≠ 0 := fun z => by rw [z] at h; exact absurd h (by decide)
  exact List.getElem?_set_ne hi
theorem t0_nil : T0s gNilD := fun d env ah e q => by
  unfold gNilD at q
  split at q
  · cases q; rfl
  · cases q
theorem t0_cons {t : TM} {u : List D → HA.Env → AH → Option HA.Env} (h : T0 t) (k : T0s u) : T0s (gConsD t u) := fun d env ah e q => by
  unfold gConsD at q
  split at q
  · obtain ⟨e1, q1, q2⟩ := Option.bind_eq_some_iff.mp q
    exact (k _ _ _ _ q2).trans (h _ _ _ _ q1)
  · cases q
theorem t0_tup {n : Nat} {u : List D → HA.Env → AH → Option HA.Env} (k : T0s u) : T0 (gTupD n u) := fun d env ah e q => by
  unfold gTupD at q
  split at q
  · split at q
    · exact k _ _ _ _ q
    · cases q
  · cases q
theorem kp_trans {env env1 : HA.Env} {r : SRes} (h : env1[0]? = env[0]?) (k : Kp env1 r) : Kp env r := by
  cases r <;> first | trivial | exact Eq.trans k h
theorem k0_loop {t : Itm} {tm : TM} {body : SM} (ht : T0 tm) (hb : K0 body) : ∀ (ds : List D) (env : HA.Env) (ah : AH), Kp env (forLoop t tm body ds env ah)
  | [], env, ah => by unfold forLoop; split <;> first | rfl | trivial
  | d :: ds, env, ah => by
    unfold forLoop
    split
    · split
      · rename_i e1 q
        have z := hb e1 ah
        have q1 := ht _ _ _ _ q
        cases e : body e1 ah with
        | nx e2 h2 => rw [e] at z; exact kp_trans (Eq.trans z q1) (k0_loop ht hb ds e2 h2)
        | ct e2 h2 => rw [e] at z; exact kp_trans (Eq.trans z q1) (k0_loop ht hb ds e2 h2)
        | bk e2 h2 => rw [e] at z; exact Eq.trans z q1
        | _ => trivial
      · trivial
    · trivial
theorem k0_for {mi : EM Itm} {tm : TM} {body : SM} (ht : T0 tm) (hb : K0 body) : K0 (sFor mi tm body) := fun env ah => kp_then fun t ah1 => k0_loop ht hb _ _ _
structure LMk (K : Dks) (c : Nat) (C : Str) (mi : List D → AH → Res D) (pi : List U → ExK → (U → Prop) → Prop) : Prop where
  to : ∀ {ok : Nat → Prop} {ah : AH} {N : Nat} {X : ExK} {k : U → Prop} {us : List U} {ds : List D}, OkF ok ah → Rs ok ah us ds → K.at' N ah → N + cb c ≤ LIM → pi us X k → PR K ok ah (N + cb c) RU X k (mkEnd ah.length (mi (.ref ah.length :: ds) (ah ++ [.ins C []])))
def vMkI (C : Str) (n ar : Nat) (pb : VS) : List U → ExK → (U → Prop) → Prop := fun us X k => us.length + 1 = ar ∧ pb (some (.ins C [] []) :: (us.map some ++ List.replicate (n - ar) none)) ⟨fun Γ => match Γ[0]? with
  | some (some u) => k u
  | _ => False, fun _ => False, fun _ => False, fun _ => False, fun a f _ => X a f⟩
theorem lmk_fn {c n ar : Nat} {C : Str} {mb : SM} {pb : VS} (h : LS K false [] none c [0] [0] mb pb) (hk : K0 mb) : LMk K c C (fnR n ar mb) (vMkI C n ar pb) := ⟨fun {ok ah N X k us ds} o q kk l x => by
  obtain ⟨hl, x⟩ := x
  have ld : ds.length = us.length := q.len.symm
  have g1 : Grow ah (ah ++ [.ins C []]) := Grow.app
  have q1 : Rs (fun m => ok m ∧ m < ah.length) ah us ds := Rs.inb _ _ q
  have lookE : ∀ (i : Nat) (u : U), (us.map some ++ List.replicate (n - ar) none)[i]? = some (some u) → ∃ d, (ds.map some ++ List.replicate (n - ar) none)[i]? = some (some d) ∧ R (fun m => ok m ∧ m < ah.length) ah u d := fun i u e => by
    by_cases hi : i < us.length
    · rw [List.getElem?_append_left (by simpa using hi), List.getElem?_map] at e
      cases z : us[i]? with
      | none => rw [z] at e; cases e
      | some w =>
        rw [z] at e
        cases e
        obtain ⟨d, h1, h2⟩ := q1.get z
        exact ⟨d, by rw [List.getElem?_append_left (by rw [List.length_map, ld]; exact hi), List.getElem?_map, h1]; rfl, h2⟩
    · rw [List.getElem?_append_right (by simpa using hi), List.getElem?_replicate] at e
      split at e <;> cases e
  have st : StR ok ah.length [0] (some (.ins C [] []) :: (us.map some ++ List.replicate (n - ar) none)) (some (.ref ah.length) :: (ds.map some ++ List.replicate (n - ar) none)) (ah ++ [.ins C []]) := by
    refine ⟨by simp [ld], by simp, fun i u hi e => ?_, fun i hi => ?_, fun i j m hi hj _ _ => ?_⟩
    · cases i with
      | zero => exact absurd (List.mem_singleton.mpr rfl) hi
      | succ i =>
        simp only [List.getElem?_cons_succ] at e
        obtain ⟨d, e1, r⟩ := lookE i u e
        refine ⟨d, by simpa using e1, R.mono (fun m a => ⟨a.1, fun j hj ej => ?_⟩) (fun m ob a e => by rw [List.getElem?_append_left a.2]; exact e) _ _ r⟩
        rw [List.mem_singleton] at hj
        subst hj
        simp only [List.getElem?_cons_zero, Option.some.injEq, D.ref.injEq] at ej
        have := a.2
        omega
    · rw [List.mem_singleton] at hi
      subst hi
      exact ⟨ah.length, .ins C [], .ins C [] [], by simp, Nat.le_refl _, by simp, by simp, ⟨rfl, rfl, Rs.nil⟩⟩
    · rw [List.mem_singleton] at hi hj
      rw [hi, hj]
  have kk1 : K.at' N (ah ++ [.ins C []]) := K.app _ kk
  have w := h.to (b := ah.length) ⟨o.three, o.fresh⟩ st kk1 l x
  have kz := hk (some (.ref ah.length) :: (ds.map some ++ List.replicate (n - ar) none)) (ah ++ [.ins C []])
  unfold fnR
  rw [if_pos (by rw [List.length_cons, ld]; exact hl)]
  have en : (D.ref ah.length :: ds).map some ++ List.replicate (n - (D.ref ah.length :: ds).length) none = some (.ref ah.length) :: (ds.map some ++ List.replicate (n - ar) none) := by
    rw [List.length_cons, ld, hl]; rfl
  rw [en]
  cases z : mb (some (.ref ah.length) :: (ds.map some ++ List.replicate (n - ar) none)) (ah ++ [.ins C []]) with
  | nx e ah1 =>
    rw [z] at w kz
    obtain ⟨Γ', y1, y2, y3, y4⟩ := w
    obtain ⟨m, ob, u, f1, f2, f3, f4, f5⟩ := y2.ow 0 (List.mem_singleton.mpr rfl)
    dsimp only at y1
    rw [f4] at y1
    have z1 : e[0]? = some (some (.ref ah.length)) := kz
    rw [f1] at z1
    cases z1
    show PR K ok ah (N + cb c) RU X k (if D.non = D.non then Res.ok (.ref ah.length) ah1 else .stuck)
    rw [if_pos rfl]
    refine ⟨u, y1, (f5.mono (fun _ a => a.1) Sta.refl).to (o.fresh _ (Nat.le_refl _)) f3, ⟨Nat.le_trans g1.len y3.len, fun m h3 hm => (y3.old m h3 hm).trans (g1.same m h3 hm)⟩, y4⟩
  | rt d ah1 => rw [z] at w; obtain ⟨u, y1, _⟩ := w; exact y1.elim
  | bk e ah1 => rw [z] at w; obtain ⟨Γ', y1, _⟩ := w; exact y1.elim
  | ct e ah1 => rw [z] at w; obtain ⟨Γ', y1, _⟩ := w; exact y1.elim
  | exn a fs e ah1 => rw [z] at w; obtain ⟨f, Γ', y1, y2, _, y4, y5⟩ := w; exact ⟨f, y1, y2, ⟨Nat.le_trans g1.len y4.len, fun m h3 hm => (y4.old m h3 hm).trans (g1.same m h3 hm)⟩, y5⟩
  | stuck => rw [z] at w; exact w.elim⟩
theorem pick_self {α : Type} (a : α) (us ws : List α) : ∀ π : List Nat, pick (π.map (· + 1)) (a :: us) ws = pick π us ws
  | [] => rfl
  | i :: π => by
    have ih := pick_self a us ws π
    unfold pick at ih ⊢
    simp only [List.map_cons, List.filterMap_cons, List.cons_append, List.getElem?_cons_succ] at ih ⊢
    rw [ih]
theorem pick_self0 {α : Type} (a : α) (us ws : List α) (π : List Nat) : pick (0 :: π.map (· + 1)) (a :: us) ws = a :: pick π us ws := by
  have := pick_self a us ws π
  unfold pick at this ⊢
  rw [List.filterMap_cons]
  simp only [List.cons_append, List.getElem?_cons_zero] at this ⊢
  rw [this]
theorem lf2_mk {c : Nat} {C : Str} {mi : List D → AH → Res D} {pi : List U → ExK → (U → Prop) → Prop} (π : List Nat) (h : LMk K c C mi pi) : LF2 K c (fun ds fs ah => mkEnd ah.length (mi (pick (0 :: π.map (· + 1)) (.ref ah.length :: ds) fs) (ah ++ [.ins C []]))) (fun us ws => pi (pick π us ws)) := ⟨fun o q q2 kk l x => by
  rw [pick_self0]
  exact h.to o (pick_Rs2 q q2 π) kk l x⟩
theorem le_mk {c c' c2 : Nat} {C : Str} {mi : List D → AH → Res D} {pi : List U → ExK → (U → Prop) → Prop} {ml mk : EM (List D)} {pa pb : VE (List U)} (π : List Nat) (ha : LE K RUs c ml pa) (hb : LE K RUs c' mk pb) (h : LMk K c2 C mi pi) :
    LE K RU (sq c (sq c' c2)) (eMk C mi (fun us ws => pick (0 :: π.map (· + 1)) us ws) ml mk) (vCal2 pa pb fun us ws => pi (pick π us ws)) := le_call2 ha hb (lf2_mk π h)
end
end HV
namespace HV
open PySem PySem.Spec PyProof.Rows L2 HA
def tUnl (n : Nat) (r : List U → Option (List (Nat × U))) : VTM := fun u => match u with
  | .lst us => if us.length = n then r us else none
  | _ => none
def tStarL (n : Nat) (r : List U → Option (List (Nat × U))) : VTM := fun u => match u with
  | .lst us => if n ≤ us.length then r (us.take n ++ [.lst (us.drop n)]) else none
  | _ => none
end HV
namespace HV
open PySem PySem.Spec PyProof.Rows L2 HA
section
variable {K : Dks}
def charsU (x : Str) : List U := x.cps.toList.map fun c => .str ⟨#[c]⟩
def vStrOf : V1o (List U)
  | .str x, _, k => k (charsU x)
  | _, _, _ => False
end
end HV
namespace HV
open PySem PySem.Spec PyProof.Rows L2 HA
section
variable {K : Dks}
def vExtend : VMt
  | .lst xs, [.lst zs], k => xs.length + zs.length ≤ line ∧ k .non (.lst (xs ++ zs))
  | _, _, _ => False
theorem lm_extend : LMt mExtend vExtend := ⟨fun {ok ah n o u us ds k} hn e r q x => by
  unfold vExtend at x
  split at x
  · obtain ⟨xs, rfl, r⟩ := r.lst
    simp only [Rs, R] at q
    obtain ⟨d, es, rfl, ⟨m, zs, rfl, _, q, r'⟩, rfl⟩ := q
    unfold mExtend
    simp only [e, q]
    rw [if_pos (by rw [← r.len, ← r'.len]; exact x.1)]
    exact ⟨_, _, _, _, rfl, x.2, by simp only [R], r.app r'⟩
  · exact x.elim⟩
def vSplit : U → List U → ExK → (U → Prop) → Prop
  | .str a, [.str b], _, k => (b.length ≠ 0 ∧ a.length + 2 ≤ line) ∧ k (.lst ((Txt.split a b).map U.str))
  | _, _, _, _ => False
theorem Rs.of_strs {ok : Nat → Prop} {ah : AH} : ∀ (ns : List Str), Rs ok ah (ns.map U.str) (ns.map D.str)
  | [] => Rs.nil
  | n :: ns => Rs.cons (by simp only [R]) (Rs.of_strs ns)
def vUpper : U → List U → ExK → (U → Prop) → Prop
  | .str a, [], _, k => a.length ≤ 5592405 ∧ k (.str (Txt.upper a))
  | _, _, _, _ => False
def uStr : U → Option Str
  | .str b => some b
  | _ => none
def uIts2 : U → Option (List U)
  | .tup us => some us
  | .lst us => some us
  | _ => none
theorem uStr_d {ok : Nat → Prop} {ah : AH} (u : U) (d : D) (i : Str) (h : R ok ah u d) (e : uStr u = some i) : dStr d = some i := by
  cases u with
  | str j => cases e; simp only [R] at h; subst h; rfl
  | _ => cases e
def vJoin : U → List U → ExK → (U → Prop) → Prop
  | .str a, [u], _, k => match (uIts2 u).bind (optAll uStr) with
    | some ys => (ys.map (·.length)).sum + ys.length * a.length ≤ 16777216 ∧ k (.str (Txt.join a ys))
    | none => False
  | _, _, _, _ => False
theorem lo_join : LOM K mJoin vJoin := ⟨fun {ok ah N X k u us d ds} o q q2 kk x => by
  unfold vJoin at x
  split at x
  · rename_i a b v
    simp only [Rs] at q2
    obtain ⟨d', _, rfl, q2, rfl⟩ := q2
    simp only [R] at q
    subst q
    split at x
    · rename_i ys e
      obtain ⟨es, e1, e2⟩ := Option.bind_eq_some_iff.mp e
      have : ∃ ds, itemsOf d' ah = some ds ∧ Rs ok ah es ds := by
        cases v with
        | tup us =>
          cases e1
          simp only [R] at q2
          obtain ⟨ds, rfl, r⟩ := q2
          exact ⟨ds, rfl, r⟩
        | lst us =>
          cases e1
          simp only [R] at q2
          obtain ⟨n, ds, rfl, _, h, r⟩ := q2
          exact ⟨ds, by simp [itemsOf, HA.listAt, h], r⟩
        | _ => cases e1
      obtain ⟨ds, h1, r⟩ := this
      unfold mJoin
      simp only [h1, Option.bind_some, optAll_Rs uStr_d _ _ _ r e2]
      rw [if_pos x.1]
      exact .okI x.2 (show R ok ah _ _ by simp only [R]) kk
    · exact x.elim
  · exact x.elim⟩
def vMaxL (us : List U) (_ : ExK) (k : U → Prop) : Prop := match optAll uInt us with
  | some (n :: ns) => k (.int ((n :: ns).foldl max n))
  | _ => False
def vDGet (u kd z : U) (k : U → Prop) : Prop := match u with
  | .dK ks us => match uKey kd with
    | some kk => k ((uVal ks us kk).getD z)
    | none => False
  | _ => False
def vDGet1 (pm pk : VE U) : VE U := fun Γ X k => pm Γ X fun u => (∃ ks us, u = .dK ks us) ∧ pk Γ X fun kd => vDGet u kd .non k
def vDGet2 (pm pk px : VE U) : VE U := fun Γ X k => pm Γ X fun u => (∃ ks us, u = .dK ks us) ∧ pk Γ X fun kd => px Γ X fun z => vDGet u kd z k
end
end HV
namespace HV
open PySem PySem.Spec PyProof.Rows L2 HA
section
variable {K : Dks}
def vPar3 (own : List Nat) (i j l : Nat) (p : VE (List U)) : VS := fun Γ S => p (eraseU own Γ) (fun a f => S.ex a f Γ) fun us => match us with
  | [x, y, z] => S.nx (((Γ.set i (some x)).set j (some y)).set l (some z))
  | _ => False
variable {F : Bool} {L : List Nat} {E : Option (List Nat)} {own own' own1 own2 : List Nat}
end
end HV
namespace HV
open PySem PySem.Spec PyProof.Rows L2 HA
section
variable {K : Dks}
def vKGet (t : CTab) : V2o U
  | .str z, d, _, k => match t.lookup z with
    | some e => k (toU e)
    | none => k d
  | _, _, _, _ => False
end
end HV
namespace HV
open PySem PySem.Spec PyProof.Rows L2 HA
section
variable {K : Dks}
def vJ : V2o U
  | .str a, .str y, _, k => (y.length ≤ line ∧ (a ++ y).length ≤ line) ∧ k (.str (a ++ y))
  | .str a, .int i, _, k => (i.natAbs.log2 < 1920 ∧ (a ++ (toString i : Str)).length ≤ line) ∧ k (.str (a ++ (toString i : Str)))
  | _, _, _, _ => False
theorem lo_J : LO2 K RU RU RU oJ vJ := ⟨fun {ok ah N X k a b a' b'} o q q' kk x => by
  change R ok ah a b at q
  change R ok ah a' b' at q'
  unfold vJ at x
  split at x
  · simp only [R] at q q'
    subst q q'
    unfold oJ
    simp only
    rw [if_pos x.1]
    exact .okI x.2 (by simp only [RU, R]) kk
  · simp only [R] at q q'
    subst q q'
    unfold oJ
    simp only
    rw [if_pos x.1]
    exact .okI x.2 (by simp only [RU, R]) kk
  · exact x.elim⟩
end
end HV
namespace HV
open PySem PySem.Spec PyProof.Rows L2 HA
section
variable {K : Dks}
def vZipX (u v : U) (_ : ExK) (k : List U → Prop) : Prop := match u, uSeq v with
  | .str x, some ys => k (((charsU x).zip ys).map fun p => .tup [p.1, p.2])
  | _, _ => False
def rgL (i j c : Int) : List Int := (List.range (rgN i j c)).map fun (n : Nat) => i + n * c
def vIR3 (u v w : U) (_ : ExK) (k : List U → Prop) : Prop := match u, v, w with
  | .int i, .int j, .int c => rgOk i j c = true ∧ k ((rgL i j c).map U.int)
  | _, _, _ => False
def toC (cs : List D) : List U := cs.map toU
def vMeth (m : Str) (v : VTab) (g : List U → List U → List U) (po : VE U) (pa pb : VE (List U)) : VE U := fun Γ X k => po Γ X fun u => match u with
  | .ins C fs us => (fs.zip us).lookup m = none ∧ match v.lookup C with
    | some p => pa Γ X fun as => pb Γ X fun ws => p (g (u :: as) ws) X k
    | none => False
  | _ => False
theorem zip_keys {fs : List Str} {kvs : List (Str × D)} {us : List U} {ok : Nat → Prop} {ah : AH} {m : Str} : kvs.map (·.1) = fs → Rs ok ah us (kvs.map (·.2)) → (fs.zip us).lookup m = none → kvs.lookup m = none := by
  induction kvs generalizing fs us with
  | nil => intro _ _ _; rfl
  | cons q kvs ih =>
    intro e r h
    rw [List.map_cons] at e r
    subst e
    cases us with
    | nil => simp [Rs] at r
    | cons u us =>
      simp only [Rs] at r
      obtain ⟨d, es, e, r1, r2⟩ := r
      cases e
      rw [List.zip_cons_cons, List.lookup_cons] at h
      rw [List.lookup_cons]
      cases z : m == q.1 with
      | true => rw [z] at h; cases h
      | false => rw [z] at h; exact ih rfl r2 h
def GR (g : List D → List D → List D) (gu : List U → List U → List U) : Prop := ∀ {ok : Nat → Prop} {ah : AH} {us ws : List U} {ds fs : List D}, Rs ok ah us ds → Rs ok ah ws fs → Rs ok ah (gu us ws) (g ds fs)
theorem gr_pick (π : List Nat) : GR (fun ds fs => pick π ds fs) (fun us ws => pick π us ws) := fun q q2 => pick_Rs2 q q2 π
theorem le_meth {c c' c2 c3 : Nat} {m : Str} {t : MTab} {v : VTab} {g : List D → List D → List D} {gu : List U → List U → List U} {mo : EM D} {po : VE U} {ml mk : EM (List D)} {pa pb : VE (List U)} (ho : LE K RU c mo po) (ha : LE K RUs c' ml pa) (hb : LE K RUs c2 mk pb) (T : TabR K c3 t v) (G : GR g gu) :
    LE K RU (sq c (sq c' (sq c2 c3))) (eMeth m t g mo ml mk) (vMeth m v gu po pa pb) := ⟨fun {ok Γ env ah N X k} o e kk l x => by
  have s := cb_sq c (sq c' (sq c2 c3))
  have s' := cb_sq c' (sq c2 c3)
  have s'' := cb_sq c2 c3
  refine PR.bind (ho.to o e kk (by omega) x) (Nat.add_le_add_left (cb_left c _) N) fun a b ah' ka q g1 k2 => ?_
  split at ka
  · rename_i C fs us
    obtain ⟨hn, ka⟩ := ka
    have q' : R ok ah' (.ins C fs us) b := q
    have q0 := q'
    simp only [R] at q'
    obtain ⟨n, kvs, rfl, on, en, ek, r⟩ := q'
    split at ka
    · rename_i p hp
      obtain ⟨mf, em, lf⟩ := T.look hp
      simp only [en, zip_keys ek r hn, if_true, em]
      refine PR.bind ((ha.to (o.grow g1) (e.grow o g1) k2 (by omega) ka)) (by omega) fun as ds ah2 kb qa g2 k3 => ?_
      have o2 := (o.grow g1).grow g2
      refine PR.bind (hb.to o2 ((e.grow o g1).grow (o.grow g1) g2) k3 (by omega) kb) (by omega) fun ws fs2 ah3 kc qb g3 k4 => ?_
      have qs : Rs ok ah3 (.ins C fs us :: as) (.ref n :: ds) := Rs.cons ((R.grow q0 (o.grow g1) g2).grow o2 g3) (Rs.grow qa o2 g3)
      exact (lf.to (o2.grow g3) (G qs qb) k4 (by omega) kc).le (by omega)
    · exact ka.elim
  · exact ka.elim⟩
end
end HV
namespace HV
open PySem PySem.Spec PyProof.Rows L2 HA
theorem nrfl {α : Sort u} {a b : α} (h : a = b) : a = b := h
def rng (a b : Int) : List Int := (List.range (b - a).toNat).map fun (n : Nat) => a + n
theorem rng_u (a b : Int) : ((List.range (b - a).toNat).map fun (n : Nat) => U.int (a + n)) = (rng a b).map U.int := by simp [rng, Function.comp_def]
@[simp] theorem rng_length (a b : Int) : (rng a b).length = (b - a).toNat := by simp [rng]
@[simp] theorem mem_rng {a b x : Int} : x ∈ rng a b ↔ a ≤ x ∧ x < b := by
  unfold rng
  simp only [List.mem_map, List.mem_range]
  exact ⟨fun ⟨n, h, e⟩ => by omega, fun h => ⟨(x - a).toNat, by omega, by omega⟩⟩
theorem rng_get {a b x : Int} {i : Nat} (h : (rng a b)[i]? = some x) : x = a + i ∧ x < b := by
  unfold rng at h
  rw [List.getElem?_map] at h
  cases g : (List.range (b - a).toNat)[i]? with
  | none => rw [g] at h; cases h
  | some n =>
    rw [g] at h
    have hl := (List.getElem?_eq_some_iff.mp g).1
    rw [List.length_range] at hl
    rw [List.getElem?_range hl] at g
    cases g
    cases h
    exact ⟨rfl, by show a + (i : Int) < b; omega⟩
abbrev Dm {α : Sort u} (_ : α) : Type := Unit
def nxt (f : UEnv → Prop) (Γ : UEnv) (_ : Dm f) : Prop := f Γ
@[simp] theorem nxt_def (f : UEnv → Prop) (Γ : UEnv) (d : Dm f) : nxt f Γ d = f Γ := nrfl rfl
def oK {α : Type} (o : Option α) (k : α → Prop) (_ : Dm k) : Prop := match o with
  | some a => k a
  | none => False
def oV (o : Option (Option U)) (k : U → Prop) (_ : Dm k) : Prop := match o with
  | some (some u) => k u
  | _ => False
def oL (o : Option (Option U)) (k : List U → Prop) (_ : Dm k) : Prop := match o with
  | some (some (.lst xs)) => k xs
  | _ => False
def oDk (o : Option (Option U)) (k : List Key → List U → Prop) (_ : Dm k) : Prop := match o with
  | some (some (.dK ks us)) => k ks us
  | _ => False
def oI (u : U) (k : Int → Prop) (_ : Dm k) : Prop := match u with
  | .int q => k q
  | _ => False
def o2 (us : List U) (k : U → U → Prop) (_ : Dm k) : Prop := match us with
  | [x, y] => k x y
  | _ => False
@[simp] theorem o2_def (x y : U) (k : U → U → Prop) (d : Dm k) : o2 [x, y] k d = k x y := nrfl rfl
@[simp] theorem oK_some {α : Type} (a : α) (k : α → Prop) (d : Dm k) : oK (some a) k d = k a := nrfl rfl
@[simp] theorem oK_none {α : Type} (k : α → Prop) (d : Dm k) : oK none k d = False := nrfl rfl
@[simp] theorem oV_some (u : U) (k : U → Prop) (d : Dm k) : oV (some (some u)) k d = k u := nrfl rfl
@[simp] theorem oL_some (xs : List U) (k : List U → Prop) (d : Dm k) : oL (some (some (.lst xs))) k d = k xs := nrfl rfl
@[simp] theorem oDk_some (ks : List Key) (us : List U) (k : List Key → List U → Prop) (d : Dm k) : oDk (some (some (.dK ks us))) k d = k ks us := nrfl rfl
@[simp] theorem oI_int (i : Int) (k : Int → Prop) (d : Dm k) : oI (.int i) k d = k i := nrfl rfl
def cal (p : List U → ExK → (U → Prop) → Prop) (us : List U) (X : ExK) (k : U → Prop) (_ : Dm (X, k)) : Prop := p us X k
def forL (vt : VTM) (body : VS) (us : List U) (Γ : UEnv) (S : SK) (_ : Dm (body, S)) : Prop := vForL vt body us Γ S
def lcL (vt : VTM) (pt : VE Bool) (pe : VE U) (Γ : UEnv) (us : List U) (k : List U → Prop) (_ : Dm (pt, pe, k)) : Prop := vLcL vt pt pe Γ us k
def whL (pc : VE Bool) (body : VS) (n : Nat) (Γ : UEnv) (S : SK) (_ : Dm (pc, body, S)) : Prop := vWh pc body n Γ S
def aD (b : Int) (k : U → Prop) (_ : Dm k) : Prop := ∀ v : Nat, (v : Int) < b → k (.int v)
section
variable {α β γ α' γ' : Type} (Γ : UEnv) (X : ExK)
@[simp ↓] theorem vVar_def (i : Nat) (k : U → Prop) : vVar i Γ X k = oV Γ[i]? k () := nrfl rfl
@[simp ↓] theorem vC_non (k : U → Prop) : vC .non Γ X k = k .non := nrfl rfl
@[simp ↓] theorem vC_int (i : Int) (k : U → Prop) : vC (.int i) Γ X k = k (.int i) := nrfl rfl
@[simp ↓] theorem vC_bl (i : Bool) (k : U → Prop) : vC (.bl i) Γ X k = k (.bl i) := nrfl rfl
@[simp ↓] theorem vC_str (i : Str) (k : U → Prop) : vC (.str i) Γ X k = k (.str i) := nrfl rfl
@[simp ↓] theorem vC_cst (i : V) (k : U → Prop) : vC (.cst i) Γ X k = k (.cst i) := nrfl rfl
@[simp ↓] theorem vC_glo (i : Str) (k : U → Prop) : vC (.glo i) Γ X k = k (.glo i) := nrfl rfl
theorem vC_def (d : D) (k : U → Prop) : vC d Γ X k = k (toU d) := rfl
@[simp] theorem toU_non : toU .non = .non := nrfl rfl
@[simp] theorem toU_bl (b : Bool) : toU (.bl b) = .bl b := nrfl rfl
@[simp] theorem toU_int (b : Int) : toU (.int b) = .int b := nrfl rfl
@[simp] theorem toU_str (b : Str) : toU (.str b) = .str b := nrfl rfl
@[simp] theorem toU_cst (b : V) : toU (.cst b) = .cst b := nrfl rfl
@[simp] theorem toU_glo (b : Str) : toU (.glo b) = .glo b := nrfl rfl
@[simp] theorem toU_ref (b : Nat) : toU (.ref b) = .ref b := nrfl rfl
@[simp] theorem toU_tup (b : List D) : toU (.tup b) = .tup (toUs b) := nrfl rfl
@[simp] theorem toUs_nil : toUs [] = [] := nrfl rfl
@[simp] theorem toUs_cons (d : D) (ds : List D) : toUs (d :: ds) = toU d :: toUs ds := nrfl rfl
@[simp ↓] theorem vCal_def (pa : VE (List U)) (f : List U → ExK → (U → Prop) → Prop) (k : U → Prop) : vCal pa f Γ X k = pa Γ X fun a => cal f a X k () := nrfl rfl
@[simp ↓] theorem v1_def (pa : VE α) (f : α → ExK → (γ → Prop) → Prop) (k : γ → Prop) : v1 pa f Γ X k = pa Γ X fun a => f a X k := nrfl rfl
@[simp ↓] theorem v2_def (pa : VE α) (pb : VE α') (f : α → α' → ExK → (γ → Prop) → Prop) (k : γ → Prop) : v2 pa pb f Γ X k = pa Γ X fun a => pb Γ X fun b => f a b X k := nrfl rfl
@[simp ↓] theorem v3_def (pa : VE α) (pb : VE α') (pc : VE γ') (f : α → α' → γ' → ExK → (γ → Prop) → Prop) (k : γ → Prop) : v3 pa pb pc f Γ X k = pa Γ X fun a => pb Γ X fun b => pc Γ X fun c => f a b c X k := nrfl rfl
@[simp ↓] theorem vaNil_def (k : List U → Prop) : vaNil Γ X k = k [] := nrfl rfl
@[simp ↓] theorem vaCons_def (p : VE U) (r : VE (List U)) (k : List U → Prop) : vaCons p r Γ X k = p Γ X fun u => r Γ X fun us => k (u :: us) := nrfl rfl
@[simp ↓] theorem vTup_def (p : VE (List U)) (k : U → Prop) : vTup p Γ X k = p Γ X fun us => us.length ≤ line ∧ k (.tup us) := nrfl rfl
@[simp ↓] theorem vLst_def (p : VE (List U)) (k : List U → Prop) : vLst p Γ X k = p Γ X fun us => us.length ≤ line ∧ k us := nrfl rfl
@[simp ↓] theorem vNew_def (p : VE (List U)) (k : U → Prop) : vNew p Γ X k = p Γ X fun us => k (.lst us) := nrfl rfl
@[simp ↓] theorem vB_def (p : VE Bool) (k : U → Prop) : vB p Γ X k = p Γ X fun b => k (.bl b) := nrfl rfl
@[simp ↓] theorem vAnd_def (a b : VE Bool) (k : Bool → Prop) : vAnd a b Γ X k = a Γ X fun t => if t = true then b Γ X k else k false := nrfl rfl
@[simp ↓] theorem vOr_def (a b : VE Bool) (k : Bool → Prop) : vOr a b Γ X k = a Γ X fun t => if t = true then k true else b Γ X k := nrfl rfl
@[simp ↓] theorem vNot_def (a : VE Bool) (k : Bool → Prop) : vNot a Γ X k = a Γ X fun t => k (!t) := nrfl rfl
@[simp ↓] theorem vYes_def (k : Bool → Prop) : vYes Γ X k = k true := nrfl rfl
@[simp ↓] theorem vEAnd_def (a b : VE U) (k : U → Prop) : vEAnd a b Γ X k = a Γ X fun u => vTruth u X fun t => if t = true then b Γ X k else k u := nrfl rfl
@[simp ↓] theorem vEOr_def (a b : VE U) (k : U → Prop) : vEOr a b Γ X k = a Γ X fun u => vTruth u X fun t => if t = true then k u else b Γ X k := nrfl rfl
@[simp ↓] theorem vENot_def (a : VE U) (k : U → Prop) : vENot a Γ X k = a Γ X fun u => vTruth u X fun t => k (.bl (!t)) := nrfl rfl
@[simp ↓] theorem vIf_def (c : VE Bool) (a b : VE α) (k : α → Prop) : vIf c a b Γ X k = c Γ X fun t => if t = true then a Γ X k else b Γ X k := nrfl rfl
@[simp ↓] theorem vChain_def (a b c : VE U) (f g : V2o Bool) (k : Bool → Prop) : vChain a b c f g Γ X k = a Γ X fun x => b Γ X fun y => f x y X fun t => if t = true then c Γ X fun z => g y z X k else k false := nrfl rfl
@[simp ↓] theorem vPart_none (k : Option Int → Prop) : vPart none Γ X k = k none := nrfl rfl
@[simp ↓] theorem vPart_some (p : VE U) (k : Option Int → Prop) : vPart (some p) Γ X k = p Γ X fun u => oI u (fun i => k (some i)) () := nrfl rfl
@[simp ↓] theorem vLc_def (pi : VE (List U)) (vt : VTM) (pt : VE Bool) (pe : VE U) (vs : List Nat) (k : List U → Prop) : vLc pi vt pt pe vs Γ X k = pi Γ X fun us => us.length ≤ line ∧ lcL vt pt pe (wipeU Γ vs) us k () := nrfl rfl
@[simp] theorem wipeU_nil : wipeU Γ [] = Γ := nrfl rfl
@[simp] theorem wipeU_cons (v : Nat) (vs : List Nat) : wipeU Γ (v :: vs) = (wipeU Γ vs).set v none := nrfl rfl
@[simp ↓] theorem vDnew_def (k : U → Prop) : vDnew Γ X k = k (.dK [] []) := nrfl rfl
variable (nx : UEnv → Prop) (rt : U → Prop) (bk ct : UEnv → Prop) (ex : Str → EF → UEnv → Prop)
@[simp ↓] theorem vSkip_def : vSkip Γ ⟨nx, rt, bk, ct, ex⟩ = nx Γ := nrfl rfl
@[simp ↓] theorem vSeq_def (a b : VS) : vSeq a b Γ ⟨nx, rt, bk, ct, ex⟩ = a Γ ⟨fun Γ' => b Γ' ⟨nx, rt, bk, ct, ex⟩, rt, bk, ct, ex⟩ := nrfl rfl
@[simp ↓] theorem vRet_def (p : VE U) : vRet p Γ ⟨nx, rt, bk, ct, ex⟩ = p Γ (fun a f => ex a f Γ) rt := nrfl rfl
@[simp ↓] theorem vRetN_def : vRetN Γ ⟨nx, rt, bk, ct, ex⟩ = rt .non := nrfl rfl
@[simp ↓] theorem vExpr_def (p : VE U) : vExpr p Γ ⟨nx, rt, bk, ct, ex⟩ = p Γ (fun a f => ex a f Γ) fun _ => nx Γ := nrfl rfl
@[simp ↓] theorem vAsg_def (own : List Nat) (p : VE U) (t : VTM) : vAsg own p t Γ ⟨nx, rt, bk, ct, ex⟩ = p (eraseU own Γ) (fun a f => ex a f Γ) fun u => oK (t u) (fun bs => nxt nx (setU Γ bs) ()) () := by
  unfold vAsg
  congr 1; funext u; cases t u <;> rfl
@[simp ↓] theorem vAsgF_def (p : VE U) (t : VTM) : vAsgF p t Γ ⟨nx, rt, bk, ct, ex⟩ = p Γ (fun a f => ex a f Γ) fun u => u.flat = true ∧ oK (t u) (fun bs => nxt nx (setU Γ bs) ()) () := by
  unfold vAsgF
  congr 1; funext u; congr 1; cases t u <;> rfl
@[simp ↓] theorem vAsgN_def (own : List Nat) (p : VE U) (i : Nat) : vAsgN own p i Γ ⟨nx, rt, bk, ct, ex⟩ = (i < Γ.length ∧ p (eraseU own Γ) (fun a f => ex a f Γ) fun u => nxt nx (Γ.set i (some u)) ()) := nrfl rfl
@[simp ↓] theorem vIfS_def (c : VE Bool) (a b : VS) : vIfS c a b Γ ⟨nx, rt, bk, ct, ex⟩ = c Γ (fun a f => ex a f Γ) fun t => if t = true then a Γ ⟨nx, rt, bk, ct, ex⟩ else b Γ ⟨nx, rt, bk, ct, ex⟩ := nrfl rfl
@[simp ↓] theorem vBk_def : vBk Γ ⟨nx, rt, bk, ct, ex⟩ = bk Γ := nrfl rfl
@[simp ↓] theorem vCt_def : vCt Γ ⟨nx, rt, bk, ct, ex⟩ = ct Γ := nrfl rfl
@[simp ↓] theorem vFor_def (own : List Nat) (pi : VE (List U)) (vt : VTM) (body : VS) : vFor own pi vt body Γ ⟨nx, rt, bk, ct, ex⟩ = pi (eraseU own Γ) (fun a f => ex a f Γ) fun us => forL vt body us Γ ⟨nx, rt, bk, ct, ex⟩ () := nrfl rfl
@[simp ↓] theorem vForB_def (own : List Nat) (pi : VE (List U)) (vt : VTM) (body : VS) : vForB own pi vt body Γ ⟨nx, rt, bk, ct, ex⟩ = pi (eraseU own Γ) (fun a f => ex a f Γ) fun us => us.length ≤ line ∧ forL vt body us Γ ⟨nx, rt, bk, ct, ex⟩ () := nrfl rfl
@[simp ↓] theorem vPar2_def (own : List Nat) (i j : Nat) (p : VE (List U)) : vPar2 own i j p Γ ⟨nx, rt, bk, ct, ex⟩ = p (eraseU own Γ) (fun a f => ex a f Γ) fun us => o2 us (fun x y => nxt nx ((Γ.set i (some x)).set j (some y)) ()) () := nrfl rfl
@[simp ↓] theorem vMtS_def (own : List Nat) (i : Nat) (pa : VE (List U)) (vf : VMt) : vMtS own i pa vf Γ ⟨nx, rt, bk, ct, ex⟩ = vMt own i pa vf Γ (fun a f => ex a f Γ) fun _ Γ' => nx Γ' := nrfl rfl
@[simp ↓] theorem vMtSF_def (i : Nat) (pa : VE (List U)) (vf : VMt) : vMtSF i pa vf Γ ⟨nx, rt, bk, ct, ex⟩ = vMtF i pa vf Γ (fun a f => ex a f Γ) fun _ Γ' => nx Γ' := nrfl rfl
@[simp ↓] theorem vMtA_def (own : List Nat) (i : Nat) (pa : VE (List U)) (vf : VMt) (j : Nat) : vMtA own i pa vf j Γ ⟨nx, rt, bk, ct, ex⟩ = vMt own i pa vf Γ (fun a f => ex a f Γ) fun r Γ' => nxt nx (Γ'.set j (some r)) () := nrfl rfl
@[simp ↓] theorem vMtAF_def (i : Nat) (pa : VE (List U)) (vf : VMt) (j : Nat) : vMtAF i pa vf j Γ ⟨nx, rt, bk, ct, ex⟩ = vMtF i pa vf Γ (fun a f => ex a f Γ) fun r Γ' => nxt nx (Γ'.set j (some r)) () := nrfl rfl
@[simp ↓] theorem vMt_def (own : List Nat) (i : Nat) (pa : VE (List U)) (vf : VMt) (k : U → UEnv → Prop) : vMt own i pa vf Γ X k = oL Γ[i]? (fun xs => pa (eraseU own Γ) X fun us => vf (.lst xs) us fun r u' => nxt (k r) (Γ.set i (some u')) ()) () := nrfl rfl
@[simp ↓] theorem vMtF_def (i : Nat) (pa : VE (List U)) (vf : VMt) (k : U → UEnv → Prop) : vMtF i pa vf Γ X k = oL Γ[i]? (fun xs => pa Γ X fun us => U.flats us = true ∧ vf (.lst xs) us fun r u' => nxt (k r) (Γ.set i (some u')) ()) () := nrfl rfl
theorem setL_oL (o : Option (Option U)) (kd : U) (f : List U → Nat → Prop) : (match o, kd with
  | some (some (.lst xs)), .int q => match ixN xs.length q with
    | some j => f xs j
    | none => False
  | _, _ => False) = oL o (fun xs => oI kd (fun q => oK (ixN xs.length q) (fun j => f xs j) ()) ()) () := by
  unfold oL oI oK
  match o, kd with
  | some (some (.lst xs)), .int q => simp only; cases ixN xs.length q <;> rfl
  | none, kd => rfl
  | some none, kd => rfl
  | some (some (.lst xs)), .non => rfl
  | some (some (.lst xs)), .bl _ => rfl
  | some (some (.lst xs)), .str _ => rfl
  | some (some (.lst xs)), .tup _ => rfl
  | some (some (.lst xs)), .lst _ => rfl
  | some (some (.lst xs)), .dK _ _ => rfl
  | some (some (.lst xs)), .dT _ _ => rfl
  | some (some (.lst xs)), .ins _ _ _ => rfl
  | some (some (.lst xs)), .ref _ => rfl
  | some (some (.lst xs)), .cst _ => rfl
  | some (some (.lst xs)), .glo _ => rfl
  | some (some (.lst xs)), .xv _ _ _ _ => rfl
  | some (some .non), _ => rfl
  | some (some (.bl _)), _ => rfl
  | some (some (.int _)), _ => rfl
  | some (some (.str _)), _ => rfl
  | some (some (.tup _)), _ => rfl
  | some (some (.dK _ _)), _ => rfl
  | some (some (.dT _ _)), _ => rfl
  | some (some (.ins _ _ _)), _ => rfl
  | some (some (.ref _)), _ => rfl
  | some (some (.cst _)), _ => rfl
  | some (some (.glo _)), _ => rfl
  | some (some (.xv _ _ _ _)), _ => rfl
@[simp ↓] theorem vSetL_def (own : List Nat) (i : Nat) (pi pv : VE U) : vSetL own i pi pv Γ ⟨nx, rt, bk, ct, ex⟩ = pv (eraseU own Γ) (fun a f => ex a f Γ) fun v => pi Γ (fun a f => ex a f Γ) fun kd => oL Γ[i]? (fun xs => oI kd (fun q => oK (ixN xs.length q) (fun j => nxt nx (Γ.set i (some (.lst (xs.set j v)))) ()) ()) ()) () := by
  unfold vSetL
  congr 1; funext v; congr 1; funext kd
  exact setL_oL Γ[i]? kd fun xs j => nx (Γ.set i (some (.lst (xs.set j v))))
@[simp ↓] theorem vSetLF_def (i : Nat) (pi pv : VE U) : vSetLF i pi pv Γ ⟨nx, rt, bk, ct, ex⟩ = pv Γ (fun a f => ex a f Γ) fun v => v.flat = true ∧ pi Γ (fun a f => ex a f Γ) fun kd => oL Γ[i]? (fun xs => oI kd (fun q => oK (ixN xs.length q) (fun j => nxt nx (Γ.set i (some (.lst (xs.set j v)))) ()) ()) ()) () := by
  unfold vSetLF
  congr 1; funext v; congr 1; congr 1; funext kd
  exact setL_oL Γ[i]? kd fun xs j => nx (Γ.set i (some (.lst (xs.set j v))))
@[simp ↓] theorem vPut_def (own : List Nat) (i : Nat) (pi pv : VE U) : vPut own i pi pv Γ ⟨nx, rt, bk, ct, ex⟩ = pv (eraseU own Γ) (fun a f => ex a f Γ) fun v => pi Γ (fun a f => ex a f Γ) fun kd => oDk Γ[i]? (fun ks us => oK (uKey kd) (fun kk => ks.length < line ∧ nxt nx (Γ.set i (some (uPut ks us kk v))) ()) ()) () := by
  unfold vPut oDk oK
  congr 1; funext v; congr 1; funext kd
  generalize Γ[i]? = o
  match o with
  | none => rfl
  | some none => rfl
  | some (some (.dK ks us)) => cases uKey kd <;> rfl
  | some (some .non) => rfl
  | some (some (.bl _)) => rfl
  | some (some (.int _)) => rfl
  | some (some (.str _)) => rfl
  | some (some (.tup _)) => rfl
  | some (some (.lst _)) => rfl
  | some (some (.dT _ _)) => rfl
  | some (some (.ins _ _ _)) => rfl
  | some (some (.ref _)) => rfl
  | some (some (.cst _)) => rfl
  | some (some (.glo _)) => rfl
  | some (some (.xv _ _ _ _)) => rfl
@[simp ↓] theorem vFn_def (n ar : Nat) (pb : VS) (us : List U) (k : U → Prop) : vFn n ar pb us X k = (us.length = ar ∧ nxt (fun Γ => pb Γ ⟨fun _ => k .non, k, fun _ => False, fun _ => False, fun a f _ => X a f⟩) (us.map some ++ List.replicate (n - us.length) none) ()) := nrfl rfl
@[simp ↓] theorem vFnN_def (n ar : Nat) (pb : VS) (us : List U) (k : U → Prop) : vFnN n ar pb us X k = (us.length = ar ∧ nxt (fun Γ => pb Γ ⟨fun _ => False, k, fun _ => False, fun _ => False, fun a f _ => X a f⟩) (us.map some ++ List.replicate (n - us.length) none) ()) := nrfl rfl
@[simp] theorem eraseU_nil : eraseU [] Γ = Γ := nrfl rfl
@[simp] theorem eraseU_cons (i : Nat) (r : List Nat) : eraseU (i :: r) Γ = eraseU r (Γ.set i none) := nrfl rfl
@[simp] theorem setU_nil : setU Γ [] = Γ := nrfl rfl
@[simp] theorem setU_cons (i : Nat) (u : U) (r : List (Nat × U)) : setU Γ ((i, u) :: r) = setU (Γ.set i (some u)) r := nrfl rfl
@[simp] theorem tSet_def (i : Nat) (u : U) : tSet i u = some [(i, u)] := nrfl rfl
@[simp] theorem tNil_def : tNil [] = some [] := nrfl rfl
@[simp] theorem tCons_def (t : VTM) (r : List U → Option (List (Nat × U))) (u : U) (us : List U) : tCons t r (u :: us) = (t u).bind fun a => (r us).map fun b => a ++ b := nrfl rfl
@[simp] theorem tTup_def (n : Nat) (r : List U → Option (List (Nat × U))) (us : List U) : tTup n r (.tup us) = if us.length = n then r us else none := nrfl rfl
@[simp] theorem tStar_def (n : Nat) (r : List U → Option (List (Nat × U))) (us : List U) : tStar n r (.tup us) = if n ≤ us.length then r (us.take n ++ [.lst (us.drop n)]) else none := nrfl rfl
variable (k : U → Prop) (kb : Bool → Prop) (kl : List U → Prop)
@[simp ↓] theorem vAdd_int (i j : Int) : vAdd (.int i) (.int j) X k = k (.int (i + j)) := nrfl rfl
@[simp ↓] theorem vAddA_int (i j : Int) : vAddA (.int i) (.int j) X k = k (.int (i + j)) := nrfl rfl
@[simp ↓] theorem vAdd_tup (i j : List U) : vAdd (.tup i) (.tup j) X k = (i.length + j.length ≤ line ∧ k (.tup (i ++ j))) := nrfl rfl
@[simp ↓] theorem vAddA_tup (i j : List U) : vAddA (.tup i) (.tup j) X k = (i.length + j.length ≤ line ∧ k (.tup (i ++ j))) := nrfl rfl
@[simp ↓] theorem vAdd_str (i j : Str) : vAdd (.str i) (.str j) X k = (i.length + j.length ≤ line ∧ k (.str (i ++ j))) := nrfl rfl
@[simp ↓] theorem vAddA_lst (i j : List U) : vAddA (.lst i) (.lst j) X k = (i.length + j.length ≤ line ∧ k (.lst (i ++ j))) := nrfl rfl
@[simp ↓] theorem vSub_int (i j : Int) : vSub (.int i) (.int j) X k = k (.int (i - j)) := nrfl rfl
@[simp ↓] theorem vNeg_int (i : Int) : vNeg (.int i) X k = k (.int (-i)) := nrfl rfl
@[simp ↓] theorem vMul_int (i j : Int) : vMul (.int i) (.int j) X k = (mulOk i j = true ∧ k (.int (i * j))) := nrfl rfl
@[simp ↓] theorem vMul_tup (i : List U) (j : Int) : vMul (.tup i) (.int j) X k = ((i ≠ [] ∧ 0 ≤ j ∧ j ≤ 1000 ∧ i.length ≤ 1000) ∧ k (.tup (List.replicate j.toNat i).flatten)) := nrfl rfl
@[simp ↓] theorem vMulI_int (i j : Int) : vMulI (.int i) (.int j) X k = (mulOk i j = true ∧ k (.int (i * j))) := nrfl rfl
@[simp ↓] theorem vFdiv_int (i j : Int) : vFdiv (.int i) (.int j) X k = ((0 < j ∧ j.natAbs.log2 < 9000) ∧ k (.int (i / j))) := nrfl rfl
@[simp ↓] theorem vMod_int (i j : Int) : vMod (.int i) (.int j) X k = (0 < j ∧ k (.int (i % j))) := nrfl rfl
@[simp ↓] theorem vPow_int (i j : Int) : vPow (.int i) (.int j) X k = ((0 ≤ j ∧ j ≤ 1000000 ∧ i.natAbs < 2 ^ 64) ∧ k (.int (i ^ j.toNat))) := nrfl rfl
@[simp ↓] theorem vEq_int (i j : Int) : vEq (.int i) (.int j) X kb = kb (decide (i = j)) := nrfl rfl
@[simp ↓] theorem vEq_str (i j : Str) : vEq (.str i) (.str j) X kb = kb (decide (i = j)) := nrfl rfl
@[simp ↓] theorem vEq_bl (i j : Bool) : vEq (.bl i) (.bl j) X kb = kb (decide (i = j)) := nrfl rfl
@[simp ↓] theorem vEq_nil (us : List U) : vEq (.tup us) (.tup []) X kb = kb us.isEmpty := by
  cases us <;> rfl
@[simp ↓] theorem vNe_def (a b : U) : vNe a b X kb = vEq a b X fun t => kb (!t) := nrfl rfl
@[simp ↓] theorem vLt_int (i j : Int) : vLt (.int i) (.int j) X kb = kb (decide (i < j)) := nrfl rfl
@[simp ↓] theorem vLe_int (i j : Int) : vLe (.int i) (.int j) X kb = kb (decide (i ≤ j)) := nrfl rfl
@[simp ↓] theorem vGt_int (i j : Int) : vGt (.int i) (.int j) X kb = kb (decide (j < i)) := nrfl rfl
@[simp ↓] theorem vGe_int (i j : Int) : vGe (.int i) (.int j) X kb = kb (decide (j ≤ i)) := nrfl rfl
@[simp ↓] theorem vTruth_bl (b : Bool) : vTruth (.bl b) X kb = kb b := nrfl rfl
@[simp ↓] theorem vTruth_non : vTruth .non X kb = kb false := nrfl rfl
@[simp ↓] theorem vTruth_int (i : Int) : vTruth (.int i) X kb = kb (i != 0) := nrfl rfl
@[simp ↓] theorem vTruth_tup (us : List U) : vTruth (.tup us) X kb = kb (!us.isEmpty) := nrfl rfl
@[simp ↓] theorem vTruth_lst (us : List U) : vTruth (.lst us) X kb = kb (!us.isEmpty) := nrfl rfl
@[simp ↓] theorem vTruth_str (z : Str) : vTruth (.str z) X kb = (z.length ≤ line ∧ kb ((z.length : Int) != 0)) := nrfl rfl
@[simp ↓] theorem vIs_non (u : U) : vIs u .non X kb = kb (uNon u) := by cases u <;> rfl
@[simp ↓] theorem vIs_bl (a b : Bool) : vIs (.bl a) (.bl b) X kb = kb (decide (a = b)) := nrfl rfl
@[simp ↓] theorem vIsNot_def (a b : U) : vIsNot a b X kb = vIs a b X fun t => kb (!t) := nrfl rfl
@[simp ↓] theorem vNotIn_def (a b : U) : vNotIn a b X kb = vIn a b X fun t => kb (!t) := nrfl rfl
@[simp ↓] theorem vIn_str (a b : Str) : vIn (.str a) (.str b) X kb = kb (strIn a b) := nrfl rfl
@[simp] theorem uNon_non : uNon .non = true := nrfl rfl
@[simp] theorem uNon_int (i : Int) : uNon (.int i) = false := nrfl rfl
@[simp] theorem uNon_bl (i : Bool) : uNon (.bl i) = false := nrfl rfl
@[simp] theorem uNon_str (i : Str) : uNon (.str i) = false := nrfl rfl
@[simp] theorem uNon_tup (i : List U) : uNon (.tup i) = false := nrfl rfl
@[simp] theorem uNon_lst (i : List U) : uNon (.lst i) = false := nrfl rfl
@[simp ↓] theorem vListOf_lst (us : List U) : vListOf (.lst us) X kl = kl us := nrfl rfl
@[simp ↓] theorem vSeqOf_lst (us : List U) : vSeqOf (.lst us) X kl = kl us := nrfl rfl
@[simp ↓] theorem vSeqOf_tup (us : List U) : vSeqOf (.tup us) X kl = kl us := nrfl rfl
@[simp ↓] theorem vLenA_def (u : U) : vLenA [u] X k = vLen u X k := nrfl rfl
@[simp ↓] theorem vLen_tup (us : List U) : vLen (.tup us) X k = k (.int us.length) := nrfl rfl
@[simp ↓] theorem vLen_lst (us : List U) : vLen (.lst us) X k = k (.int us.length) := nrfl rfl
@[simp ↓] theorem vLen_str (z : Str) : vLen (.str z) X k = (z.length ≤ line ∧ k (.int z.length)) := nrfl rfl
@[simp ↓] theorem vIsi_def (u : U) (T : String) : vIsi [u, .cst (.ty T)] X k = oK (uName u) (fun a => T ∈ tyTable ∧ k (.bl (tyIs a T))) () := by
  unfold vIsi; simp only; cases uName u <;> rfl
@[simp ↓] theorem vIsi_tup (u : U) (ts : List U) : vIsi [u, .tup ts] X k = oK (uName u) (fun a => oK (uTys ts) (fun Ts => (Ts.all fun T => decide (T ∈ tyTable)) = true ∧ k (.bl (Ts.any (tyIs a)))) ()) () := by
  unfold vIsi; simp only; cases uName u <;> cases uTys ts <;> rfl
@[simp] theorem uName_non : uName .non = some "NoneType" := nrfl rfl
@[simp] theorem uName_bl (b : Bool) : uName (.bl b) = some "bool" := nrfl rfl
@[simp] theorem uName_int (b : Int) : uName (.int b) = some "int" := nrfl rfl
@[simp] theorem uName_str (b : Str) : uName (.str b) = some "str" := nrfl rfl
@[simp] theorem uName_tup (b : List U) : uName (.tup b) = some "tuple" := nrfl rfl
@[simp] theorem uName_lst (b : List U) : uName (.lst b) = some "list" := nrfl rfl
@[simp] theorem uName_dK (a : List Key) (b : List U) : uName (.dK a b) = some "dict" := nrfl rfl
@[simp] theorem tyT_bool : "bool" ∈ tyTable := by decide
@[simp] theorem tyT_int : "int" ∈ tyTable := by decide
@[simp] theorem tyT_str : "str" ∈ tyTable := by decide
@[simp] theorem tyT_tup : "tuple" ∈ tyTable := by decide
@[simp] theorem tyT_lst : "list" ∈ tyTable := by decide
@[simp] theorem tyT_dict : "dict" ∈ tyTable := by decide
@[simp ↓] theorem vTupOf_def (us : List U) : vTupOf us X k = k (.tup us) := nrfl rfl
@[simp ↓] theorem vId_def (us : List U) : vId us X kl = kl us := nrfl rfl
@[simp ↓] theorem vRevL_def (us : List U) : vRevL us X kl = kl us.reverse := nrfl rfl
@[simp ↓] theorem vRevT_def (us : List U) : vRevT (.tup us) X k = k (.tup us.reverse) := nrfl rfl
@[simp ↓] theorem vIx_tup (us : List U) (i : Int) : vIx (.tup us) (.int i) X k = oK (ixD us i) k () := by
  unfold vIx; simp only; cases ixD us i <;> rfl
@[simp ↓] theorem vIx_lst (us : List U) (i : Int) : vIx (.lst us) (.int i) X k = oK (ixD us i) k () := by
  unfold vIx; simp only; cases ixD us i <;> rfl
@[simp ↓] theorem vLIx_def (us : List U) (i : Int) : vLIx us (.int i) X k = oK (ixD us i) k () := by
  unfold vLIx; simp only; cases ixD us i <;> rfl
@[simp ↓] theorem vCut_def (us : List U) (lo hi : Option Int) : vCut (.tup us) lo hi X k = k (.tup (HA.cut us lo hi)) := nrfl rfl
@[simp ↓] theorem vCut_str (z : Str) (lo hi : Option Int) : vCut (.str z) lo hi X k = (z.length ≤ line ∧ k (.str (cutS z lo hi))) := nrfl rfl
@[simp ↓] theorem vLCut_def (us : List U) (lo hi : Option Int) : vLCut (.lst us) lo hi X kl = kl (HA.cut us lo hi) := nrfl rfl
@[simp ↓] theorem vCat_def (xs ys : List U) : vCat xs ys X kl = (xs.length + ys.length ≤ line ∧ kl (xs ++ ys)) := nrfl rfl
@[simp ↓] theorem vRep_def (xs : List U) (n : Int) : vRep xs (.int n) X kl = ((-(2 ^ 63) ≤ n ∧ n < 2 ^ 63 ∧ xs.length * n.toNat ≤ line) ∧ kl (List.replicate n.toNat xs).flatten) := nrfl rfl
@[simp] theorem vNil_nil (neg : Bool) : vNil neg [] X kb = kb (!neg) := nrfl rfl
theorem vNil_cons (neg : Bool) (u : U) (us : List U) : vNil neg (u :: us) X kb = kb neg := rfl
@[simp ↓] theorem vRange1_def (j : Int) : vRange1 (.int j) X kl = vRange 0 j kl := nrfl rfl
@[simp ↓] theorem vRange2_def (i j : Int) : vRange2 (.int i) (.int j) X kl = vRange i j kl := nrfl rfl
@[simp ↓] theorem vIR1_def (j : Int) : vIR1 (.int j) X kl = vIR 0 j kl := nrfl rfl
@[simp ↓] theorem vIR2_def (i j : Int) : vIR2 (.int i) (.int j) X kl = vIR i j kl := nrfl rfl
@[simp ↓] theorem vRange_def (i j : Int) : vRange i j kl = ((-(2 ^ 62) ≤ i ∧ i < 2 ^ 62 ∧ -(2 ^ 62) ≤ j ∧ j < 2 ^ 62 ∧ (j - i).toNat ≤ 2 ^ 24) ∧ kl ((rng i j).map U.int)) := by rw [← rng_u]; rfl
@[simp ↓] theorem vIR_def (i j : Int) : vIR i j kl = ((-(2 ^ 62) ≤ i ∧ i < 2 ^ 62 ∧ -(2 ^ 62) ≤ j ∧ j < 2 ^ 62) ∧ kl ((rng i j).map U.int)) := by rw [← rng_u]; rfl
@[simp ↓] theorem vStr_int (i : Int) : vStr [.int i] X k = (i.natAbs.log2 < 1920 ∧ k (.str (toString i))) := nrfl rfl
@[simp ↓] theorem vStr_str (i : Str) : vStr [.str i] X k = k (.str i) := nrfl rfl
@[simp ↓] theorem vInt_int (i : Int) : vInt [.int i] X k = k (.int i) := nrfl rfl
@[simp ↓] theorem vInt_bl (b : Bool) : vInt [.bl b] X k = k (.int (if b then 1 else 0)) := nrfl rfl
@[simp ↓] theorem vMin_def (i j : Int) : vMin [.int i, .int j] X k = k (.int (if j < i then j else i)) := nrfl rfl
@[simp ↓] theorem vMax_def (i j : Int) : vMax [.int i, .int j] X k = k (.int (if j > i then j else i)) := nrfl rfl
theorem vRepr_def (u : U) : vRepr [u] X k = oK (uP 63 u) (fun p => ShowOk p ∧ k (.str p.shown)) () := by
  unfold vRepr; simp only; cases uP 63 u <;> rfl
@[simp] theorem uKey_int (i : Int) : uKey (.int i) = some (.inl i) := nrfl rfl
@[simp] theorem uKey_str (i : Str) : uKey (.str i) = some (.inr i) := nrfl rfl
@[simp] theorem line_def : line = 16777216 := nrfl rfl
@[simp ↓] theorem vDraw_def (b : Int) : vDraw [.ref 2, .int b] X k = ((0 < b ∧ b < 2 ^ 250) ∧ aD b k ()) := nrfl rfl
@[simp ↓] theorem vAppend_def (xs : List U) (y : U) (f : U → U → Prop) : vAppend (.lst xs) [y] f = (xs.length < line ∧ f .non (.lst (xs ++ [y]))) := nrfl rfl
@[simp ↓] theorem vIn_dK (ks : List Key) (us : List U) (i : Int) : vIn (.int i) (.dK ks us) X kb = kb (ks.any fun z => decide (z = .inl i)) := nrfl rfl
@[simp ↓] theorem vMaxD_def (us : List U) (d : Int) : vMaxD [.lst us] [.int d] X k = oK (optAll uInt us) (fun ns => k (.int (maxOf ns d))) () := by
  unfold vMaxD; simp only; cases optAll uInt us <;> rfl
@[simp] theorem ixD_eq {α : Type} (xs : List α) (i : Int) : ixD xs i = if 0 ≤ i then xs[i.toNat]? else if -(xs.length : Int) ≤ i then xs[(i + xs.length).toNat]? else none := by
  unfold ixD ixN
  by_cases h : 0 ≤ i
  · rw [if_pos h, if_pos h]
    by_cases h1 : i < xs.length
    · rw [if_pos h1]; rfl
    · rw [if_neg h1]
      rw [List.getElem?_eq_none (by omega)]
      rfl
  · rw [if_neg h, if_neg h]
    by_cases h1 : -(xs.length : Int) ≤ i
    · rw [if_pos h1, if_pos h1]; rfl
    · rw [if_neg h1, if_neg h1]; rfl
end
theorem ints_optAll (ns : List Int) : optAll uInt (ns.map U.int) = some ns := by
  induction ns with
  | nil => rfl
  | cons n ns ih => simp [optAll, uInt, ih]
theorem bools_optAll (ns : List Bool) : optAll uBool (ns.map U.bl) = some ns := by
  induction ns with
  | nil => rfl
  | cons n ns ih => simp [optAll, uBool, ih]
@[simp] theorem vSum_ints (ns : List Int) (X : ExK) (k : U → Prop) : vSum (ns.map U.int) X k = k (.int ns.sum) := by unfold vSum; rw [ints_optAll]
@[simp] theorem vAll_bools (ns : List Bool) (X : ExK) (k : U → Prop) : vAll (ns.map U.bl) X k = k (.bl (ns.all id)) := by unfold vAll; rw [bools_optAll]
@[simp] theorem vAny_bools (ns : List Bool) (X : ExK) (k : U → Prop) : vAny (ns.map U.bl) X k = k (.bl (ns.any id)) := by unfold vAny; rw [bools_optAll]
@[simp] theorem vSum_map {α : Type} (f : α → Int) (xs : List α) (X : ExK) (k : U → Prop) : vSum (xs.map fun x => U.int (f x)) X k = k (.int (xs.map f).sum) := by
  have := vSum_ints (xs.map f) X k
  simpa [Function.comp_def] using this
@[simp] theorem vAll_map {α : Type} (f : α → Bool) (xs : List α) (X : ExK) (k : U → Prop) : vAll (xs.map fun x => U.bl (f x)) X k = k (.bl (xs.all f)) := by
  have := vAll_bools (xs.map f) X k
  simpa [Function.comp_def, List.all_map] using this
@[simp] theorem vAny_map {α : Type} (f : α → Bool) (xs : List α) (X : ExK) (k : U → Prop) : vAny (xs.map fun x => U.bl (f x)) X k = k (.bl (xs.any f)) := by
  have := vAny_bools (xs.map f) X k
  simpa [Function.comp_def, List.any_map] using this
@[simp] theorem vAll_nil (X : ExK) (k : U → Prop) : vAll [] X k = k (.bl true) := nrfl rfl
inductive All2 {α β : Type} (Q : α → β → Prop) : List α → List β → Prop where
  | nil : All2 Q [] []
  | cons {a : α} {b : β} {as : List α} {bs : List β} : Q a b → All2 Q as bs → All2 Q (a :: as) (b :: bs)
theorem All2.len {α β : Type} {Q : α → β → Prop} {as : List α} {bs : List β} (h : All2 Q as bs) : as.length = bs.length := by
  induction h with
  | nil => rfl
  | cons _ _ ih => simp [ih]
theorem vLcL_map {α : Type} {vt : VTM} {pt : VE Bool} {pe : VE U} {Γ : UEnv} (g : α → U) (p : α → Bool) (f : α → U) : ∀ (xs : List α) (k : List U → Prop), (∀ x, x ∈ xs → ∃ bs, vt (g x) = some bs ∧ (∀ k, pt (setU Γ bs) XF k = k (p x)) ∧ (p x = true → ∀ k, pe (setU Γ bs) XF k = k (f x))) → vLcL vt pt pe Γ (xs.map g) k = k ((xs.filter p).map f)
  | [], k, _ => rfl
  | x :: xs, k, h => by
    obtain ⟨bs, h1, h2, h3⟩ := h x List.mem_cons_self
    have ih := fun k => vLcL_map g p f xs k fun y hy => h y (List.mem_cons_of_mem _ hy)
    rw [List.map_cons]
    unfold vLcL
    rw [h1]
    simp only
    rw [h2]
    cases hp : p x with
    | true => simp [h3 hp, ih, hp]
    | false => simp [ih, hp]
theorem vLcL_map1 {α : Type} {vt : VTM} {pe : VE U} {Γ : UEnv} (g : α → U) (f : α → U) (xs : List α) (k : List U → Prop) (h : ∀ x, x ∈ xs → ∃ bs, vt (g x) = some bs ∧ (∀ k, pe (setU Γ bs) XF k = k (f x))) : vLcL vt vYes pe Γ (xs.map g) k = k (xs.map f) := by
  rw [vLcL_map g (fun _ => true) f xs k fun x hx => let ⟨bs, h1, h2⟩ := h x hx; ⟨bs, h1, fun _ => rfl, fun _ => h2⟩]
  rw [List.filter_eq_self.mpr fun _ _ => rfl]
theorem lcL_map {α : Type} {vt : VTM} {pt : VE Bool} {pe : VE U} {Γ : UEnv} (g : α → U) (p : α → Bool) (f : α → U) (xs : List α) (k : List U → Prop) (d : Dm (pt, pe, k)) (h : ∀ x, x ∈ xs → ∃ bs, vt (g x) = some bs ∧ (∀ k, pt (setU Γ bs) XF k = k (p x)) ∧ (p x = true → ∀ k, pe (setU Γ bs) XF k = k (f x))) : lcL vt pt pe Γ (xs.map g) k d = k ((xs.filter p).map f) := vLcL_map g p f xs k h
theorem lcL_map1 {α : Type} {vt : VTM} {pe : VE U} {Γ : UEnv} (g : α → U) (f : α → U) (xs : List α) (k : List U → Prop) (d : Dm (vYes, pe, k)) (h : ∀ x, x ∈ xs → ∃ bs, vt (g x) = some bs ∧ (∀ k, pe (setU Γ bs) XF k = k (f x))) : lcL vt vYes pe Γ (xs.map g) k d = k (xs.map f) := vLcL_map1 g f xs k h
end HV
namespace HV
open PySem PySem.Spec PyProof.Rows L2 HA
set_option exponentiation.threshold 300
def BIG : Nat := 2 ^ 280
def Sz (n w : Nat) (u : U) : Prop := ∃ p, uP n u = some p ∧ tame BIG p = true ∧ p.weight ≤ w
def Szs (n w : Nat) (us : List U) : Prop := ∃ ps, optAll (uP n) us = some ps ∧ tames BIG ps = true ∧ PyData.weightAll ps ≤ w
theorem uP_succ : ∀ (f : Nat) (u : U) (p : PyData), uP f u = some p → uP (f + 1) u = some p
  | 0, _, _, h => by simp [uP] at h
  | f + 1, u, p, h => by
    have ih := uP_succ f
    unfold uP at h ⊢
    split at h
    · exact h
    · exact h
    · exact h
    · exact h
    · rw [Option.map_eq_some_iff] at h ⊢
      obtain ⟨ps, h1, h2⟩ := h
      exact ⟨ps, optAll_mono ih h1, h2⟩
    · rw [Option.map_eq_some_iff] at h ⊢
      obtain ⟨ps, h1, h2⟩ := h
      exact ⟨ps, optAll_mono ih h1, h2⟩
    · rw [Option.map_eq_some_iff] at h ⊢
      obtain ⟨ps, h1, h2⟩ := h
      exact ⟨ps, optAll_mono ih h1, h2⟩
    · cases h
theorem uP_le {f g : Nat} (hl : f ≤ g) (u : U) (p : PyData) (h : uP f u = some p) : uP g u = some p := by
  induction hl with
  | refl => exact h
  | step _ ih => exact uP_succ _ u p ih
theorem Sz.mono {n n' w w' : Nat} {u : U} (h : Sz n w u) (hn : n ≤ n') (hw : w ≤ w') : Sz n' w' u := let ⟨p, h1, h2, h3⟩ := h; ⟨p, uP_le hn u p h1, h2, Nat.le_trans h3 hw⟩
theorem Szs.mono {n n' w w' : Nat} {us : List U} (h : Szs n w us) (hn : n ≤ n') (hw : w ≤ w') : Szs n' w' us := let ⟨p, h1, h2, h3⟩ := h; ⟨p, optAll_mono (uP_le hn) h1, h2, Nat.le_trans h3 hw⟩
theorem Sz.non {n : Nat} : Sz (n + 1) 0 .non := ⟨.none, rfl, rfl, Nat.le_refl _⟩
theorem Sz.bl {n : Nat} {b : Bool} : Sz (n + 1) 0 (.bl b) := ⟨.bool b, rfl, rfl, Nat.le_refl _⟩
theorem Sz.int {n : Nat} {i : Int} (h : i.natAbs ≤ BIG) : Sz (n + 1) 281 (.int i) := ⟨.int i, rfl, by simp [tame, h], by
  simp only [PyData.weight]
  split
  · exact Nat.zero_le _
  · rename_i h0
    have : i.natAbs ≠ 0 := fun z => h0 (by simp; omega)
    have := (Nat.log2_lt this).mpr (show i.natAbs < 2 ^ 281 from Nat.lt_of_le_of_lt h (by decide))
    omega⟩
theorem Sz.str {n : Nat} {x : Str} (h : (x.cps.toList.all fun c => decide (c < 16 ^ 8)) = true) : Sz (n + 1) x.cps.size (.str x) := ⟨.str x, rfl, h, Nat.le_refl _⟩
theorem Szs.nil {n : Nat} : Szs n 0 [] := ⟨[], rfl, rfl, Nat.le_refl _⟩
theorem Szs.cons {n a b : Nat} {u : U} {us : List U} (h : Sz n a u) (t : Szs n b us) : Szs n (a + 1 + b) (u :: us) := by
  obtain ⟨p, h1, h2, h3⟩ := h
  obtain ⟨ps, t1, t2, t3⟩ := t
  refine ⟨p :: ps, by simp [optAll, h1, t1], by simp [tames, h2, t2], ?_⟩
  simp only [PyData.weightAll]
  omega
theorem Szs.app {n a b : Nat} {us vs : List U} (h : Szs n a us) (t : Szs n b vs) : Szs n (a + b) (us ++ vs) := by
  obtain ⟨p, h1, h2, h3⟩ := h
  obtain ⟨ps, t1, t2, t3⟩ := t
  exact ⟨p ++ ps, optAll_app h1 t1, by simp [tames_app, h2, t2], by rw [weightAll_app]; omega⟩
theorem Szs.all {n w m : Nat} : ∀ {us : List U}, (∀ u ∈ us, Sz n w u) → us.length ≤ m → Szs n (m * (w + 1)) us
  | [], _, _ => Szs.nil.mono (Nat.le_refl _) (Nat.zero_le _)
  | u :: us, h, hl => by
    rw [List.length_cons] at hl
    obtain ⟨m', rfl⟩ : ∃ m', m = m' + 1 := ⟨m - 1, by omega⟩
    exact (Szs.cons (h u List.mem_cons_self) (Szs.all (m := m') (fun v hv => h v (List.mem_cons_of_mem _ hv)) (by omega))).mono (Nat.le_refl _) (by rw [Nat.add_mul, Nat.one_mul]; omega)
theorem Sz.tup {n w : Nat} {us : List U} (h : Szs n w us) : Sz (n + 1) w (.tup us) := by
  obtain ⟨ps, h1, h2, h3⟩ := h
  exact ⟨.tuple ps, by simp [uP, h1], by simpa [tame] using h2, by simpa [PyData.weight] using h3⟩
theorem Sz.lst {n w : Nat} {us : List U} (h : Szs n w us) : Sz (n + 1) w (.lst us) := by
  obtain ⟨ps, h1, h2, h3⟩ := h
  exact ⟨.list ps, by simp [uP, h1], by simpa [tame] using h2, by simpa [PyData.weight] using h3⟩
theorem uP_depth : ∀ (f : Nat) (u : U) (p : PyData), uP f u = some p → p.depth ≤ f
  | 0, _, _, h => by simp [uP] at h
  | f + 1, u, p, h => by
    have ih := uP_depth f
    have key : ∀ (us : List U) (ps : List PyData), optAll (uP f) us = some ps → PyData.depthAll ps ≤ f := fun us ps e => depthAll_le fun p hp => let ⟨u, _, hu⟩ := optAll_mem e p hp; ih u p hu
    unfold uP at h
    split at h
    · cases h; simp [PyData.depth]
    · cases h; simp [PyData.depth]
    · cases h; simp [PyData.depth]
    · cases h; simp [PyData.depth]
    · rw [Option.map_eq_some_iff] at h
      obtain ⟨ps, h1, rfl⟩ := h
      have := key _ _ h1
      simp only [PyData.depth]; omega
    · rw [Option.map_eq_some_iff] at h
      obtain ⟨ps, h1, rfl⟩ := h
      have := key _ _ h1
      simp only [PyData.depth]; omega
    · rw [Option.map_eq_some_iff] at h
      obtain ⟨ps, h1, rfl⟩ := h
      rename_i ks us
      have : PyData.depthKv ((List.map keyP ks).zip ps) ≤ f := depthKv_le (n := f) fun q hq => by
        obtain ⟨a, b⟩ := q
        have hm := List.of_mem_zip hq
        obtain ⟨k, _, rfl⟩ := List.mem_map.mp hm.1
        obtain ⟨u, _, hu⟩ := optAll_mem h1 b hm.2
        exact ⟨by cases k <;> simp [keyP, PyData.depth], ih u b hu⟩
      simp only [PyData.depth]; omega
    · cases h
theorem Sz.ok {n w : Nat} {u : U} (h : Sz n w u) (hn : n ≤ 63 := by decide) (hw : w ≤ 50000 := by decide) : ∃ p, uP 63 u = some p ∧ ShowOk p := by
  obtain ⟨p, h1, h2, h3⟩ := h.mono hn hw
  have hB : BIG < 2 ^ 290 := by decide
  exact ⟨p, h1, (tame_leaf hB p h2).2, tame_len hB h2 h3, uP_depth 63 u p h1⟩
def shw (u : U) : Str := match uP 63 u with
  | some p => p.shown
  | none => ""
theorem Sz.repr {n w : Nat} {u : U} {X : ExK} {k : U → Prop} (h : Sz n w u) (hn : n ≤ 63 := by decide) (hw : w ≤ 50000 := by decide) : vRepr [u] X k = k (.str (shw u)) := by
  obtain ⟨p, h1, h2⟩ := h.ok hn hw
  rw [vRepr_def]
  simp only [shw, h1, h2, oK_some, true_and]
end HV
namespace HV
open PySem PySem.Spec PyProof.Rows L2 HA
@[simp] theorem vNil_ints (neg : Bool) (ns : List Int) (X : ExK) (kb : Bool → Prop) : vNil neg (ns.map U.int) X kb = kb (if ns = [] then !neg else neg) := by
  cases ns with
  | nil => rfl
  | cons x ns =>
    rw [List.map_cons, vNil_cons]
    simp
end HV
namespace HV
open PySem PySem.Spec PyProof.Rows L2 HA
def Of {α : Type} (ys : List α) (y : α) : Prop := y ∈ ys
@[simp high] theorem pick2int (a b : Int) (X : ExK) (k' : U → Prop) (dd : Dm fun u => vLIx [.int a, .int b] u X k') : aD 2 (fun u => vLIx [.int a, .int b] u X k') dd = ∀ y : Int, Of [a, b] y → k' (.int y) := by
  refine propext ⟨fun h y hy => ?_, fun h v hv => ?_⟩
  · simp only [Of, List.mem_cons, List.not_mem_nil, or_false] at hy
    rcases hy with rfl | rfl
    · exact h 0 (by omega)
    · exact h 1 (by omega)
  · match v, hv with
    | 0, _ => exact h _ (by simp [Of])
    | 1, _ => exact h _ (by simp [Of])
    | v + 2, hv => exact absurd hv (by omega)
@[simp high] theorem pick2str (a b : Str) (X : ExK) (k' : U → Prop) (dd : Dm fun u => vLIx [.str a, .str b] u X k') : aD 2 (fun u => vLIx [.str a, .str b] u X k') dd = ∀ y : Str, Of [a, b] y → k' (.str y) := by
  refine propext ⟨fun h y hy => ?_, fun h v hv => ?_⟩
  · simp only [Of, List.mem_cons, List.not_mem_nil, or_false] at hy
    rcases hy with rfl | rfl
    · exact h 0 (by omega)
    · exact h 1 (by omega)
  · match v, hv with
    | 0, _ => exact h _ (by simp [Of])
    | 1, _ => exact h _ (by simp [Of])
    | v + 2, hv => exact absurd hv (by omega)
@[simp high] theorem pick3int (a b c : Int) (X : ExK) (k' : U → Prop) (dd : Dm fun u => vLIx [.int a, .int b, .int c] u X k') : aD 3 (fun u => vLIx [.int a, .int b, .int c] u X k') dd = ∀ y : Int, Of [a, b, c] y → k' (.int y) := by
  refine propext ⟨fun h y hy => ?_, fun h v hv => ?_⟩
  · simp only [Of, List.mem_cons, List.not_mem_nil, or_false] at hy
    rcases hy with rfl | rfl | rfl
    · exact h 0 (by omega)
    · exact h 1 (by omega)
    · exact h 2 (by omega)
  · match v, hv with
    | 0, _ => exact h _ (by simp [Of])
    | 1, _ => exact h _ (by simp [Of])
    | 2, _ => exact h _ (by simp [Of])
    | v + 3, hv => exact absurd hv (by omega)
@[simp high] theorem pick3str (a b c : Str) (X : ExK) (k' : U → Prop) (dd : Dm fun u => vLIx [.str a, .str b, .str c] u X k') : aD 3 (fun u => vLIx [.str a, .str b, .str c] u X k') dd = ∀ y : Str, Of [a, b, c] y → k' (.str y) := by
  refine propext ⟨fun h y hy => ?_, fun h v hv => ?_⟩
  · simp only [Of, List.mem_cons, List.not_mem_nil, or_false] at hy
    rcases hy with rfl | rfl | rfl
    · exact h 0 (by omega)
    · exact h 1 (by omega)
    · exact h 2 (by omega)
  · match v, hv with
    | 0, _ => exact h _ (by simp [Of])
    | 1, _ => exact h _ (by simp [Of])
    | 2, _ => exact h _ (by simp [Of])
    | v + 3, hv => exact absurd hv (by omega)
@[simp high] theorem pick4int (a b c d : Int) (X : ExK) (k' : U → Prop) (dd : Dm fun u => vLIx [.int a, .int b, .int c, .int d] u X k') : aD 4 (fun u => vLIx [.int a, .int b, .int c, .int d] u X k') dd = ∀ y : Int, Of [a, b, c, d] y → k' (.int y) := by
  refine propext ⟨fun h y hy => ?_, fun h v hv => ?_⟩
  · simp only [Of, List.mem_cons, List.not_mem_nil, or_false] at hy
    rcases hy with rfl | rfl | rfl | rfl
    · exact h 0 (by omega)
    · exact h 1 (by omega)
    · exact h 2 (by omega)
    · exact h 3 (by omega)
  · match v, hv with
    | 0, _ => exact h _ (by simp [Of])
    | 1, _ => exact h _ (by simp [Of])
    | 2, _ => exact h _ (by simp [Of])
    | 3, _ => exact h _ (by simp [Of])
    | v + 4, hv => exact absurd hv (by omega)
@[simp high] theorem pick4str (a b c d : Str) (X : ExK) (k' : U → Prop) (dd : Dm fun u => vLIx [.str a, .str b, .str c, .str d] u X k') : aD 4 (fun u => vLIx [.str a, .str b, .str c, .str d] u X k') dd = ∀ y : Str, Of [a, b, c, d] y → k' (.str y) := by
  refine propext ⟨fun h y hy => ?_, fun h v hv => ?_⟩
  · simp only [Of, List.mem_cons, List.not_mem_nil, or_false] at hy
    rcases hy with rfl | rfl | rfl | rfl
    · exact h 0 (by omega)
    · exact h 1 (by omega)
    · exact h 2 (by omega)
    · exact h 3 (by omega)
  · match v, hv with
    | 0, _ => exact h _ (by simp [Of])
    | 1, _ => exact h _ (by simp [Of])
    | 2, _ => exact h _ (by simp [Of])
    | 3, _ => exact h _ (by simp [Of])
    | v + 4, hv => exact absurd hv (by omega)
@[simp high] theorem pick5int (a b c d e : Int) (X : ExK) (k' : U → Prop) (dd : Dm fun u => vLIx [.int a, .int b, .int c, .int d, .int e] u X k') : aD 5 (fun u => vLIx [.int a, .int b, .int c, .int d, .int e] u X k') dd = ∀ y : Int, Of [a, b, c, d, e] y → k' (.int y) := by
  refine propext ⟨fun h y hy => ?_, fun h v hv => ?_⟩
  · simp only [Of, List.mem_cons, List.not_mem_nil, or_false] at hy
    rcases hy with rfl | rfl | rfl | rfl | rfl
    · exact h 0 (by omega)
    · exact h 1 (by omega)
    · exact h 2 (by omega)
    · exact h 3 (by omega)
    · exact h 4 (by omega)
  · match v, hv with
    | 0, _ => exact h _ (by simp [Of])
    | 1, _ => exact h _ (by simp [Of])
    | 2, _ => exact h _ (by simp [Of])
    | 3, _ => exact h _ (by simp [Of])
    | 4, _ => exact h _ (by simp [Of])
    | v + 5, hv => exact absurd hv (by omega)
@[simp high] theorem pick5str (a b c d e : Str) (X : ExK) (k' : U → Prop) (dd : Dm fun u => vLIx [.str a, .str b, .str c, .str d, .str e] u X k') : aD 5 (fun u => vLIx [.str a, .str b, .str c, .str d, .str e] u X k') dd = ∀ y : Str, Of [a, b, c, d, e] y → k' (.str y) := by
  refine propext ⟨fun h y hy => ?_, fun h v hv => ?_⟩
  · simp only [Of, List.mem_cons, List.not_mem_nil, or_false] at hy
    rcases hy with rfl | rfl | rfl | rfl | rfl
    · exact h 0 (by omega)
    · exact h 1 (by omega)
    · exact h 2 (by omega)
    · exact h 3 (by omega)
    · exact h 4 (by omega)
  · match v, hv with
    | 0, _ => exact h _ (by simp [Of])
    | 1, _ => exact h _ (by simp [Of])
    | 2, _ => exact h _ (by simp [Of])
    | 3, _ => exact h _ (by simp [Of])
    | 4, _ => exact h _ (by simp [Of])
    | v + 5, hv => exact absurd hv (by omega)
@[simp high] theorem pick6int (a b c d e f : Int) (X : ExK) (k' : U → Prop) (dd : Dm fun u => vLIx [.int a, .int b, .int c, .int d, .int e, .int f] u X k') : aD 6 (fun u => vLIx [.int a, .int b, .int c, .int d, .int e, .int f] u X k') dd = ∀ y : Int, Of [a, b, c, d, e, f] y → k' (.int y) := by
  refine propext ⟨fun h y hy => ?_, fun h v hv => ?_⟩
  · simp only [Of, List.mem_cons, List.not_mem_nil, or_false] at hy
    rcases hy with rfl | rfl | rfl | rfl | rfl | rfl
    · exact h 0 (by omega)
    · exact h 1 (by omega)
    · exact h 2 (by omega)
    · exact h 3 (by omega)
    · exact h 4 (by omega)
    · exact h 5 (by omega)
  · match v, hv with
    | 0, _ => exact h _ (by simp [Of])
    | 1, _ => exact h _ (by simp [Of])
    | 2, _ => exact h _ (by simp [Of])
    | 3, _ => exact h _ (by simp [Of])
    | 4, _ => exact h _ (by simp [Of])
    | 5, _ => exact h _ (by simp [Of])
    | v + 6, hv => exact absurd hv (by omega)
@[simp high] theorem pick6str (a b c d e f : Str) (X : ExK) (k' : U → Prop) (dd : Dm fun u => vLIx [.str a, .str b, .str c, .str d, .str e, .str f] u X k') : aD 6 (fun u => vLIx [.str a, .str b, .str c, .str d, .str e, .str f] u X k') dd = ∀ y : Str, Of [a, b, c, d, e, f] y → k' (.str y) := by
  refine propext ⟨fun h y hy => ?_, fun h v hv => ?_⟩
  · simp only [Of, List.mem_cons, List.not_mem_nil, or_false] at hy
    rcases hy with rfl | rfl | rfl | rfl | rfl | rfl
    · exact h 0 (by omega)
    · exact h 1 (by omega)
    · exact h 2 (by omega)
    · exact h 3 (by omega)
    · exact h 4 (by omega)
    · exact h 5 (by omega)
  · match v, hv with
    | 0, _ => exact h _ (by simp [Of])
    | 1, _ => exact h _ (by simp [Of])
    | 2, _ => exact h _ (by simp [Of])
    | 3, _ => exact h _ (by simp [Of])
    | 4, _ => exact h _ (by simp [Of])
    | 5, _ => exact h _ (by simp [Of])
    | v + 6, hv => exact absurd hv (by omega)
@[simp high] theorem pick7int (a b c d e f g : Int) (X : ExK) (k' : U → Prop) (dd : Dm fun u => vLIx [.int a, .int b, .int c, .int d, .int e, .int f, .int g] u X k') : aD 7 (fun u => vLIx [.int a, .int b, .int c, .int d, .int e, .int f, .int g] u X k') dd = ∀ y : Int, Of [a, b, c, d, e, f, g] y → k' (.int y) := by
  refine propext ⟨fun h y hy => ?_, fun h v hv => ?_⟩
  · simp only [Of, List.mem_cons, List.not_mem_nil, or_false] at hy
    rcases hy with rfl | rfl | rfl | rfl | rfl | rfl | rfl
    · exact h 0 (by omega)
    · exact h 1 (by omega)
    · exact h 2 (by omega)
    · exact h 3 (by omega)
    · exact h 4 (by omega)
    · exact h 5 (by omega)
    · exact h 6 (by omega)
  · match v, hv with
    | 0, _ => exact h _ (by simp [Of])
    | 1, _ => exact h _ (by simp [Of])
    | 2, _ => exact h _ (by simp [Of])
    | 3, _ => exact h _ (by simp [Of])
    | 4, _ => exact h _ (by simp [Of])
    | 5, _ => exact h _ (by simp [Of])
    | 6, _ => exact h _ (by simp [Of])
    | v + 7, hv => exact absurd hv (by omega)
@[simp high] theorem pick7str (a b c d e f g : Str) (X : ExK) (k' : U → Prop) (dd : Dm fun u => vLIx [.str a, .str b, .str c, .str d, .str e, .str f, .str g] u X k') : aD 7 (fun u => vLIx [.str a, .str b, .str c, .str d, .str e, .str f, .str g] u X k') dd = ∀ y : Str, Of [a, b, c, d, e, f, g] y → k' (.str y) := by
  refine propext ⟨fun h y hy => ?_, fun h v hv => ?_⟩
  · simp only [Of, List.mem_cons, List.not_mem_nil, or_false] at hy
    rcases hy with rfl | rfl | rfl | rfl | rfl | rfl | rfl
    · exact h 0 (by omega)
    · exact h 1 (by omega)
    · exact h 2 (by omega)
    · exact h 3 (by omega)
    · exact h 4 (by omega)
    · exact h 5 (by omega)
    · exact h 6 (by omega)
  · match v, hv with
    | 0, _ => exact h _ (by simp [Of])
    | 1, _ => exact h _ (by simp [Of])
    | 2, _ => exact h _ (by simp [Of])
    | 3, _ => exact h _ (by simp [Of])
    | 4, _ => exact h _ (by simp [Of])
    | 5, _ => exact h _ (by simp [Of])
    | 6, _ => exact h _ (by simp [Of])
    | v + 7, hv => exact absurd hv (by omega)
@[simp high] theorem pick8int (a b c d e f g h : Int) (X : ExK) (k' : U → Prop) (dd : Dm fun u => vLIx [.int a, .int b, .int c, .int d, .int e, .int f, .int g, .int h] u X k') : aD 8 (fun u => vLIx [.int a, .int b, .int c, .int d, .int e, .int f, .int g, .int h] u X k') dd = ∀ y : Int, Of [a, b, c, d, e, f, g, h] y → k' (.int y) := by
  refine propext ⟨fun h y hy => ?_, fun h v hv => ?_⟩
  · simp only [Of, List.mem_cons, List.not_mem_nil, or_false] at hy
    rcases hy with rfl | rfl | rfl | rfl | rfl | rfl | rfl | rfl
    · exact h 0 (by omega)
    · exact h 1 (by omega)
    · exact h 2 (by omega)
    · exact h 3 (by omega)
    · exact h 4 (by omega)
    · exact h 5 (by omega)
    · exact h 6 (by omega)
    · exact h 7 (by omega)
  · match v, hv with
    | 0, _ => exact h _ (by simp [Of])
    | 1, _ => exact h _ (by simp [Of])
    | 2, _ => exact h _ (by simp [Of])
    | 3, _ => exact h _ (by simp [Of])
    | 4, _ => exact h _ (by simp [Of])
    | 5, _ => exact h _ (by simp [Of])
    | 6, _ => exact h _ (by simp [Of])
    | 7, _ => exact h _ (by simp [Of])
    | v + 8, hv => exact absurd hv (by omega)
@[simp high] theorem pick8str (a b c d e f g h : Str) (X : ExK) (k' : U → Prop) (dd : Dm fun u => vLIx [.str a, .str b, .str c, .str d, .str e, .str f, .str g, .str h] u X k') : aD 8 (fun u => vLIx [.str a, .str b, .str c, .str d, .str e, .str f, .str g, .str h] u X k') dd = ∀ y : Str, Of [a, b, c, d, e, f, g, h] y → k' (.str y) := by
  refine propext ⟨fun h y hy => ?_, fun h v hv => ?_⟩
  · simp only [Of, List.mem_cons, List.not_mem_nil, or_false] at hy
    rcases hy with rfl | rfl | rfl | rfl | rfl | rfl | rfl | rfl
    · exact h 0 (by omega)
    · exact h 1 (by omega)
    · exact h 2 (by omega)
    · exact h 3 (by omega)
    · exact h 4 (by omega)
    · exact h 5 (by omega)
    · exact h 6 (by omega)
    · exact h 7 (by omega)
  · match v, hv with
    | 0, _ => exact h _ (by simp [Of])
    | 1, _ => exact h _ (by simp [Of])
    | 2, _ => exact h _ (by simp [Of])
    | 3, _ => exact h _ (by simp [Of])
    | 4, _ => exact h _ (by simp [Of])
    | 5, _ => exact h _ (by simp [Of])
    | 6, _ => exact h _ (by simp [Of])
    | 7, _ => exact h _ (by simp [Of])
    | v + 8, hv => exact absurd hv (by omega)
theorem aD_pick {α : Type} {g : α → U} {ys : List α} {us : List U} {b : Int} {X : ExK} {k : U → Prop} {d : Dm fun u => vLIx us u X k} (hu : us = ys.map g) (hb : b = ys.length) (h : ∀ y, y ∈ ys → k (g y)) : aD b (fun u => vLIx us u X k) d := fun v hv => by
  subst hu; subst hb
  have hv' : v < ys.length := by omega
  simp [hv']
  exact h _ (List.getElem_mem _)
@[simp low] theorem aD_def (b : Int) (k : U → Prop) (d : Dm k) : aD b k d = ∀ v : Nat, (v : Int) < b → k (.int v) := rfl
end HV
namespace HV
open PySem PySem.Spec PyProof.Rows L2 HA
def Lay (n : Nat) (u : U) : Prop := ∃ p, uP n u = some p ∧ p.canLay0 = true
def Lays (n : Nat) (us : List U) : Prop := ∃ ps, optAll (uP n) us = some ps ∧ PyData.canLayAll0 ps = true
theorem Lay.mono {n n' : Nat} {u : U} (h : Lay n u) (hn : n ≤ n') : Lay n' u := let ⟨p, h1, h2⟩ := h; ⟨p, uP_le hn u p h1, h2⟩
theorem Lay.non {n : Nat} : Lay (n + 1) .non := ⟨.none, rfl, rfl⟩
theorem Lay.bl {n : Nat} {b : Bool} : Lay (n + 1) (.bl b) := ⟨.bool b, rfl, rfl⟩
theorem Lay.int {n : Nat} {i : Int} : Lay (n + 1) (.int i) := ⟨.int i, rfl, rfl⟩
theorem Lay.str {n : Nat} {x : Str} (h : PyData.strOk x = true) : Lay (n + 1) (.str x) := ⟨.str x, rfl, h⟩
theorem Lays.nil {n : Nat} : Lays n [] := ⟨[], rfl, rfl⟩
theorem Lays.cons {n : Nat} {u : U} {us : List U} (h : Lay n u) (t : Lays n us) : Lays n (u :: us) := by
  obtain ⟨p, h1, h2⟩ := h
  obtain ⟨ps, t1, t2⟩ := t
  exact ⟨p :: ps, by simp [optAll, h1, t1], by simp [PyData.canLayAll0, h2, t2]⟩
theorem Lays.all {n : Nat} : ∀ {us : List U}, (∀ u ∈ us, Lay n u) → Lays n us
  | [], _ => Lays.nil
  | u :: us, h => Lays.cons (h u List.mem_cons_self) (Lays.all fun v hv => h v (List.mem_cons_of_mem _ hv))
theorem Lay.tup {n : Nat} {us : List U} (h : Lays n us) : Lay (n + 1) (.tup us) := by
  obtain ⟨ps, h1, h2⟩ := h
  exact ⟨.tuple ps, by simp [uP, h1], h2⟩
theorem Lay.lst {n : Nat} {us : List U} (h : Lays n us) : Lay (n + 1) (.lst us) := by
  obtain ⟨ps, h1, h2⟩ := h
  exact ⟨.list ps, by simp [uP, h1], h2⟩
theorem Lays.shaped {n : Nat} {us : List U} (h : Lays n us) (hn : n ≤ 62) : ∃ ps, optAll (uP 62) us = some ps ∧ SeqAt.shaped (.list ps) = true := by
  obtain ⟨ps, h1, h2⟩ := h
  have h1' := optAll_mono (uP_le hn) h1
  refine ⟨ps, h1', ?_⟩
  have hd : PyData.depthAll ps ≤ 62 := depthAll_le fun p hp => let ⟨u, _, hu⟩ := optAll_mem h1' p hp; uP_depth 62 u p hu
  unfold SeqAt.shaped
  simp [PyData.canLay0, h2, PyData.depth]
  omega
theorem Lays.vnil {n : Nat} {neg : Bool} {us : List U} {X : ExK} {kb : Bool → Prop} (h : Lays n us) (hn : n ≤ 62 := by decide) : vNil neg us X kb = kb (if us = [] then !neg else neg) := by
  cases us with
  | nil => rfl
  | cons u us =>
    rw [vNil_cons]
    simp
theorem vnil {neg : Bool} {us : List U} {X : ExK} {kb : Bool → Prop} : vNil neg us X kb = kb (if us = [] then !neg else neg) := by
  cases us with
  | nil => rfl
  | cons u us =>
    rw [vNil_cons]
    simp
end HV
namespace HV
open PySem PySem.Spec PyProof.Rows L2 HA
end HV
namespace HV
open PySem PySem.Spec PyProof.Rows L2 HA
@[simp] theorem cut_from {α : Type} (xs : List α) (i : Int) (h : 0 ≤ i) : HA.cut xs (some i) none = xs.drop i.toNat := by
  have := cut_tail xs i.toNat
  rwa [Int.toNat_of_nonneg h] at this
@[simp] theorem cut_to {α : Type} (xs : List α) (i : Int) (h : 0 ≤ i) : HA.cut xs none (some i) = xs.take i.toNat := by
  have := cut_head xs i.toNat
  rwa [Int.toNat_of_nonneg h] at this
end HV
namespace HV
open PySem PySem.Spec PyProof.Rows L2 HA
@[simp] theorem optAll_uInt_map {α : Type} (f : α → Int) (xs : List α) : optAll uInt (xs.map fun x => U.int (f x)) = some (xs.map f) := by
  have := ints_optAll (xs.map f)
  simpa [Function.comp_def] using this
@[simp] theorem optAll_uInt_comp {α : Type} (f : α → Int) (xs : List α) : optAll uInt (xs.map (U.int ∘ f)) = some (xs.map f) := optAll_uInt_map f xs
theorem foldl_max {a b : Int} : ∀ (ns : List Int) (n : Int), a ≤ n ∧ n ≤ b → (∀ x ∈ ns, x ≤ b) → a ≤ ns.foldl max n ∧ ns.foldl max n ≤ b
  | [], n, h, _ => h
  | x :: ns, n, h, hx => by
    rw [List.foldl_cons]
    have := hx x List.mem_cons_self
    exact foldl_max ns (max n x) (by omega) fun y hy => hx y (List.mem_cons_of_mem _ hy)
end HV
namespace HV
open PySem PySem.Spec PyProof.Rows L2 HA
@[simp ↓] theorem cal_pick (p : List U → ExK → (U → Prop) → Prop) (π : List Nat) (us : List U) (X : ExK) (k : U → Prop) (d : Dm (X, k)) : cal (fun us => p (pick π [] us)) us X k d = cal p (pick π [] us) X k () := nrfl rfl
@[simp] theorem pick_nil (us : List U) : pick [] [] us = [] := nrfl rfl
@[simp] theorem pick_cons (i : Nat) (π : List Nat) (us : List U) : pick (i :: π) [] us = match us[i]? with
  | some u => u :: pick π [] us
  | none => pick π [] us := by
  unfold pick
  simp only [List.nil_append, List.filterMap_cons]
  cases us[i]? <;> rfl
end HV
namespace HV
open PySem PySem.Spec PyProof.Rows L2 HA
def zipU (xs ys : List U) : List U := (xs.zip ys).map fun p => .tup [p.1, p.2]
section
variable {α β : Type} (Γ : UEnv) (X : ExK) (k : U → Prop) (kl : List U → Prop)
@[simp ↓] theorem vC_tup (ds : List D) : vC (.tup ds) Γ X k = k (.tup (toUs ds)) := nrfl rfl
theorem vIn_tup (u : U) (us : List U) (kb : Bool → Prop) : vIn u (.tup us) X kb = uIn u us kb := by unfold vIn; cases u <;> rfl
@[simp ↓] theorem vLc2_def (pi : VE (List U)) (vt : VTM) (pt : VE Bool) (pi1 : VE (List U)) (vt1 : VTM) (pt1 : VE Bool) (pe : VE U) (vs vs1 : List Nat) : vLc2 pi vt pt pi1 vt1 pt1 pe vs vs1 Γ X k = pi Γ X fun us => us.length ≤ 4096 ∧ lcL vt pt (vInn pi1 vt1 pt1 pe vs1) (wipeU Γ vs) us (fun yss => k (.lst (flatU yss))) () := nrfl rfl
@[simp ↓] theorem vInn_def (pi1 : VE (List U)) (vt1 : VTM) (pt1 : VE Bool) (pe : VE U) (vs1 : List Nat) : vInn pi1 vt1 pt1 pe vs1 Γ X k = pi1 Γ XF fun us1 => us1.length ≤ 4096 ∧ lcL vt1 pt1 pe (wipeU Γ vs1) us1 (fun ys => k (.lst ys)) () := nrfl rfl
@[simp ↓] theorem vZip_ll (st : Bool) (xs ys : List U) : vZip st (.lst xs) (.lst ys) X kl = ((st = true → xs.length = ys.length) ∧ kl (zipU xs ys)) := nrfl rfl
@[simp ↓] theorem vZip_lt (st : Bool) (xs ys : List U) : vZip st (.lst xs) (.tup ys) X kl = ((st = true → xs.length = ys.length) ∧ kl (zipU xs ys)) := nrfl rfl
@[simp ↓] theorem vZip_tl (st : Bool) (xs ys : List U) : vZip st (.tup xs) (.lst ys) X kl = ((st = true → xs.length = ys.length) ∧ kl (zipU xs ys)) := nrfl rfl
@[simp ↓] theorem vZip_tt (st : Bool) (xs ys : List U) : vZip st (.tup xs) (.tup ys) X kl = ((st = true → xs.length = ys.length) ∧ kl (zipU xs ys)) := nrfl rfl
theorem zipU_map (f : α → U) (g : β → U) (xs : List α) (ys : List β) : zipU (xs.map f) (ys.map g) = (xs.zip ys).map fun p => .tup [f p.1, g p.2] := by
  unfold zipU
  rw [List.zip_map, List.map_map]
  rfl
@[simp] theorem flatU_nil : flatU [] = [] := nrfl rfl
theorem pairs_optAll : ∀ (ps : List (Int × Int)), optAll uPair (ps.map uOfPair) = some ps
  | [] => rfl
  | p :: ps => by rw [List.map_cons]; unfold optAll; rw [pairs_optAll ps]; rfl
end
@[simp] theorem cut_most {α : Type} (xs : List α) : HA.cut xs none (some (-1)) = xs.dropLast := by
  unfold HA.cut
  rw [HT.sIx_none]
  have : HT.sIx xs.length xs.length (some (-1)) = xs.length - 1 := by
    show (if (-1 : Int) < 0 then ((-1 : Int) + (xs.length : Int)).toNat else min (-1 : Int).toNat xs.length) = xs.length - 1
    rw [if_pos (by decide)]
    omega
  rw [this, List.dropLast_eq_take]
  simp
theorem lcL_mapI {vt : VTM} {pe : VE U} {Γ : UEnv} (f : U → U) (us : List U) (k : List U → Prop) (d : Dm (vYes, pe, k)) (h : ∀ u, u ∈ us → ∃ bs, vt u = some bs ∧ (∀ k, pe (setU Γ bs) XF k = k (f u))) : lcL vt vYes pe Γ us k d = k (us.map f) := by
  have := lcL_map1 (vt := vt) (pe := pe) (Γ := Γ) id f us k d h
  rwa [List.map_id] at this
@[simp] theorem ty_NoneType_int : tyIs "NoneType" "int" = false := by decide
@[simp] theorem ty_NoneType_str : tyIs "NoneType" "str" = false := by decide
@[simp] theorem ty_NoneType_bool : tyIs "NoneType" "bool" = false := by decide
@[simp] theorem ty_NoneType_tuple : tyIs "NoneType" "tuple" = false := by decide
@[simp] theorem ty_NoneType_list : tyIs "NoneType" "list" = false := by decide
@[simp] theorem ty_NoneType_dict : tyIs "NoneType" "dict" = false := by decide
@[simp] theorem ty_bool_int : tyIs "bool" "int" = true := by decide
@[simp] theorem ty_bool_str : tyIs "bool" "str" = false := by decide
@[simp] theorem ty_bool_bool : tyIs "bool" "bool" = true := by decide
@[simp] theorem ty_bool_tuple : tyIs "bool" "tuple" = false := by decide
@[simp] theorem ty_bool_list : tyIs "bool" "list" = false := by decide
@[simp] theorem ty_bool_dict : tyIs "bool" "dict" = false := by decide
@[simp] theorem ty_int_int : tyIs "int" "int" = true := by decide
@[simp] theorem ty_int_str : tyIs "int" "str" = false := by decide
@[simp] theorem ty_int_bool : tyIs "int" "bool" = false := by decide
@[simp] theorem ty_int_tuple : tyIs "int" "tuple" = false := by decide
@[simp] theorem ty_int_list : tyIs "int" "list" = false := by decide
@[simp] theorem ty_int_dict : tyIs "int" "dict" = false := by decide
@[simp] theorem ty_str_int : tyIs "str" "int" = false := by decide
@[simp] theorem ty_str_str : tyIs "str" "str" = true := by decide
@[simp] theorem ty_str_bool : tyIs "str" "bool" = false := by decide
@[simp] theorem ty_str_tuple : tyIs "str" "tuple" = false := by decide
@[simp] theorem ty_str_list : tyIs "str" "list" = false := by decide
@[simp] theorem ty_str_dict : tyIs "str" "dict" = false := by decide
@[simp] theorem ty_tuple_int : tyIs "tuple" "int" = false := by decide
@[simp] theorem ty_tuple_str : tyIs "tuple" "str" = false := by decide
@[simp] theorem ty_tuple_bool : tyIs "tuple" "bool" = false := by decide
@[simp] theorem ty_tuple_tuple : tyIs "tuple" "tuple" = true := by decide
@[simp] theorem ty_tuple_list : tyIs "tuple" "list" = false := by decide
@[simp] theorem ty_tuple_dict : tyIs "tuple" "dict" = false := by decide
@[simp] theorem ty_list_int : tyIs "list" "int" = false := by decide
@[simp] theorem ty_list_str : tyIs "list" "str" = false := by decide
@[simp] theorem ty_list_bool : tyIs "list" "bool" = false := by decide
@[simp] theorem ty_list_tuple : tyIs "list" "tuple" = false := by decide
@[simp] theorem ty_list_list : tyIs "list" "list" = true := by decide
@[simp] theorem ty_list_dict : tyIs "list" "dict" = false := by decide
@[simp] theorem ty_dict_int : tyIs "dict" "int" = false := by decide
@[simp] theorem ty_dict_str : tyIs "dict" "str" = false := by decide
@[simp] theorem ty_dict_bool : tyIs "dict" "bool" = false := by decide
@[simp] theorem ty_dict_tuple : tyIs "dict" "tuple" = false := by decide
@[simp] theorem ty_dict_list : tyIs "dict" "list" = false := by decide
@[simp] theorem ty_dict_dict : tyIs "dict" "dict" = true := by decide
end HV
namespace HV
open PySem PySem.Spec PyProof.Rows L2 HA
mutual
def plainP : PyData → Bool
  | .none | .int _ | .str _ => true
  | .tuple xs | .list xs => plainPs xs
  | _ => false
def plainPs : List PyData → Bool
  | [] => true
  | x :: xs => plainP x && plainPs xs
end
mutual
theorem eqv_plain : ∀ p q : PyData, plainP p = true → plainP q = true → (PyData.eqv p q = true ↔ p = q)
  | .none, q, hp, hq => by cases q <;> simp_all [PyData.eqv, plainP]
  | .int i, q, hp, hq => by cases q <;> simp_all [PyData.eqv, plainP]
  | .str i, q, hp, hq => by cases q <;> simp_all [PyData.eqv, plainP]
  | .tuple xs, q, hp, hq => by
    cases q with
    | tuple ys =>
      simp only [plainP] at hp hq
      simp only [PyData.eqv, PyData.tuple.injEq]
      exact eqv_plains xs ys hp hq
    | _ => simp_all [PyData.eqv, plainP]
  | .list xs, q, hp, hq => by
    cases q with
    | list ys =>
      simp only [plainP] at hp hq
      simp only [PyData.eqv, PyData.list.injEq]
      exact eqv_plains xs ys hp hq
    | _ => simp_all [PyData.eqv, plainP]
  | .bool b, q, hp, hq => by simp [plainP] at hp
  | .dict b, q, hp, hq => by simp [plainP] at hp
theorem eqv_plains : ∀ p q : List PyData, plainPs p = true → plainPs q = true → (PyData.eqvAll p q = true ↔ p = q)
  | [], q, hp, hq => by cases q <;> simp [PyData.eqvAll]
  | x :: xs, q, hp, hq => by
    cases q with
    | nil => simp [PyData.eqvAll]
    | cons y ys =>
      simp only [plainPs, Bool.and_eq_true] at hp hq
      simp only [PyData.eqvAll, Bool.and_eq_true, List.cons.injEq]
      rw [eqv_plain x y hp.1 hq.1, eqv_plains xs ys hp.2 hq.2]
end
def Pl (n : Nat) (u : U) : Prop := ∃ p, uP n u = some p ∧ p.canLay0 = true ∧ plainP p = true
def Pls (n : Nat) (us : List U) : Prop := ∃ ps, optAll (uP n) us = some ps ∧ PyData.canLayAll0 ps = true ∧ plainPs ps = true
theorem Pl.mono {n n' : Nat} {u : U} (h : Pl n u) (hn : n ≤ n') : Pl n' u := let ⟨p, h1, h2⟩ := h; ⟨p, uP_le hn u p h1, h2⟩
theorem Pl.non {n : Nat} : Pl (n + 1) .non := ⟨.none, rfl, rfl, rfl⟩
theorem Pl.int {n : Nat} {i : Int} : Pl (n + 1) (.int i) := ⟨.int i, rfl, rfl, rfl⟩
theorem Pl.str {n : Nat} {x : Str} (h : PyData.strOk x = true) : Pl (n + 1) (.str x) := ⟨.str x, rfl, h, rfl⟩
theorem Pls.nil {n : Nat} : Pls n [] := ⟨[], rfl, rfl, rfl⟩
theorem Pls.cons {n : Nat} {u : U} {us : List U} (h : Pl n u) (t : Pls n us) : Pls n (u :: us) := by
  obtain ⟨p, h1, h2, h3⟩ := h
  obtain ⟨ps, t1, t2, t3⟩ := t
  exact ⟨p :: ps, by simp [optAll, h1, t1], by simp [PyData.canLayAll0, h2, t2], by simp [plainPs, h3, t3]⟩
theorem Pls.all {n : Nat} : ∀ {us : List U}, (∀ u ∈ us, Pl n u) → Pls n us
  | [], _ => Pls.nil
  | u :: us, h => Pls.cons (h u List.mem_cons_self) (Pls.all fun v hv => h v (List.mem_cons_of_mem _ hv))
theorem Pl.tup {n : Nat} {us : List U} (h : Pls n us) : Pl (n + 1) (.tup us) := by
  obtain ⟨ps, h1, h2, h3⟩ := h
  exact ⟨.tuple ps, by simp [uP, h1], h2, h3⟩
theorem Pl.lst {n : Nat} {us : List U} (h : Pls n us) : Pl (n + 1) (.lst us) := by
  obtain ⟨ps, h1, h2, h3⟩ := h
  exact ⟨.list ps, by simp [uP, h1], h2, h3⟩
theorem Pls.ints {n : Nat} (ns : List Int) : Pls (n + 1) (ns.map U.int) := Pls.all fun u hu => by obtain ⟨i, _, rfl⟩ := List.mem_map.mp hu; exact Pl.int
theorem uP_inj : ∀ (f : Nat) (u v : U) (p : PyData), uP f u = some p → uP f v = some p → plainP p = true → u = v
  | 0, _, _, _, h, _, _ => by simp [uP] at h
  | f + 1, u, v, p, hu, hv, hp => by
    have ih := uP_inj f
    have key : ∀ (us vs : List U) (ps : List PyData), optAll (uP f) us = some ps → optAll (uP f) vs = some ps → plainPs ps = true → us = vs := by
      intro us
      induction us with
      | nil => intro vs ps h1 h2 _; cases h1; cases vs with
        | nil => rfl
        | cons v vs => unfold optAll at h2; split at h2 <;> cases h2
      | cons u us ihs =>
        intro vs ps h1 h2 h3
        unfold optAll at h1
        split at h1
        · rename_i a b ea eb
          cases h1
          cases vs with
          | nil => cases h2
          | cons v vs =>
            unfold optAll at h2
            split at h2
            · rename_i c d ec ed
              cases h2
              simp only [plainPs, Bool.and_eq_true] at h3
              rw [ih u v _ ea ec h3.1, ihs vs _ eb ed h3.2]
            · cases h2
        · cases h1
    cases u <;> cases v <;> simp only [uP, Option.map_eq_some_iff, Option.some.injEq, reduceCtorEq] at hu hv
    all_goals first
      | (obtain ⟨a, ha, rfl⟩ := hu; obtain ⟨b, hb, e⟩ := hv; cases e; simp only [plainP] at hp; rw [key _ _ _ ha hb hp]; done)
      | (obtain ⟨a, ha, rfl⟩ := hu; simp [plainP] at hp; done)
      | (obtain ⟨a, ha, rfl⟩ := hu; obtain ⟨b, hb, e⟩ := hv; cases e; done)
      | (obtain ⟨a, ha, rfl⟩ := hu; cases hv; done)
      | (subst hu; obtain ⟨b, hb, e⟩ := hv; cases e; done)
      | (subst hu; cases hv; rfl)
      | (subst hu; cases hv; done)
theorem Pl.eqv {u v : U} {p q : PyData} (h1 : uP 63 u = some p) (h2 : uP 63 v = some q) (h3 : plainP p = true) (h4 : plainP q = true) : PyData.eqv p q = true ↔ u = v := by
  rw [eqv_plain p q h3 h4]
  exact ⟨fun e => by subst e; exact uP_inj 63 u v p h1 h2 h3, fun e => by subst e; rw [h1] at h2; exact Option.some.inj h2⟩
theorem Pl.shaped {n : Nat} {u : U} (h : Pl n u) (hn : n ≤ 63) : ∃ p, uP 63 u = some p ∧ SeqAt.shaped p = true ∧ plainP p = true := by
  obtain ⟨p, h1, h2, h3⟩ := h.mono hn
  refine ⟨p, h1, ?_, h3⟩
  have := uP_depth 63 u p h1
  unfold SeqAt.shaped
  rw [h2, Bool.true_and, decide_eq_true_eq]
  omega
section
variable {X : ExK} {kb : Bool → Prop}
theorem vEq_pl {n m : Nat} {u v : U} {b : Bool} (h : Pl n u) (g : Pl m v) (hb : b = true ↔ u = v) (hn : n ≤ 63 := by decide) (hm : m ≤ 63 := by decide) : vEq u v X kb = kb b := by
  obtain ⟨p, h1, h2, h3⟩ := h.shaped hn
  obtain ⟨q, g1, g2, g3⟩ := g.shaped hm
  have e := Pl.eqv h1 g1 h3 g3
  have eb : PyData.eqv p q = b := by rw [Bool.eq_iff_iff, e, hb]
  unfold vEq
  split
  · congr 1; rw [Bool.eq_iff_iff, hb]; simp
  · congr 1; rw [Bool.eq_iff_iff, hb]; simp
  · congr 1; rw [Bool.eq_iff_iff, hb]; simp
  · rename_i ys
    congr 1; rw [Bool.eq_iff_iff, hb]; cases ys <;> simp
  · rename_i ys _
    congr 1; rw [Bool.eq_iff_iff, hb]; cases ys <;> simp
  · rw [h1, g1]
    simp only [h2, g2, eb, true_and, and_self]
theorem uIn_pl {n m : Nat} {u : U} {us : List U} {b : Bool} (h : Pl n u) (g : Pls m us) (hb : b = true ↔ u ∈ us) (hn : n ≤ 63 := by decide) (hm : m ≤ 62 := by decide) : uIn u us kb = kb b := by
  obtain ⟨p, h1, h2, h3⟩ := h.shaped hn
  obtain ⟨qs, g1, g2, g3⟩ := g
  have g1' := optAll_mono (uP_le hm) g1
  have key : ∀ (us : List U) (qs : List PyData), optAll (uP 62) us = some qs → plainPs qs = true → ((qs.any fun z => PyData.eqv z p) = true ↔ u ∈ us) := by
    intro us
    induction us with
    | nil => intro qs e _; cases e; simp
    | cons v us ih =>
      intro qs e hp
      unfold optAll at e
      split at e
      · rename_i a b ea eb
        cases e
        simp only [plainPs, Bool.and_eq_true] at hp
        rw [List.any_cons, Bool.or_eq_true, ih b eb hp.2, List.mem_cons, Pl.eqv (uP_le (by decide) v a ea) h1 hp.1 h3]
        exact or_congr_left ⟨fun e => e.symm, fun e => e.symm⟩
      · cases e
  unfold uIn
  rw [h1, g1']
  simp only [h2, g2, true_and, and_self]
  congr 1
  rw [Bool.eq_iff_iff, hb]
  exact key us qs g1' g3
end
end HV
namespace HV
open PySem PySem.Spec PyProof.Rows L2 HA
theorem toNat_inj : ∀ (a b : List Char), a.map Char.toNat = b.map Char.toNat → a = b
  | [], [], _ => rfl
  | [], _ :: _, h => by simp at h
  | _ :: _, [], h => by simp at h
  | x :: a, y :: b, h => by
    simp only [List.map_cons, List.cons.injEq] at h
    have hc : x = y := by
      apply Char.ext
      apply UInt32.toNat_inj.mp
      exact h.1
    rw [hc, toNat_inj a b h.2]
theorem ofS_inj (a b : String) : (Str.ofString a = Str.ofString b) = (a = b) := by
  apply propext
  constructor
  · intro h
    rw [Str.ofString_eq_toList, Str.ofString_eq_toList] at h
    have h2 := congrArg (fun s : Str => s.cps.toList) h
    have h3 : a.toList.map Char.toNat = b.toList.map Char.toNat := by simpa using h2
    exact String.toList_injective (toNat_inj _ _ h3)
  · intro h; rw [h]
theorem ofS_beq (a b : String) : (Str.ofString a == Str.ofString b) = decide (a = b) := by
  have e := ofS_inj a b
  by_cases h : a = b
  · subst h; simp
  · have h' : ¬ (Str.ofString a = Str.ofString b) := fun z => h (e.mp z)
    rw [decide_eq_false h]
    exact beq_eq_false_iff_ne.mpr h'
theorem look_cons {α : Type} (a b : String) (x : α) (r : List (Str × α)) : List.lookup (Str.ofString a) ((Str.ofString b, x) :: r) = if a = b then some x else List.lookup (Str.ofString a) r := by
  rw [List.lookup_cons, ofS_beq]
  by_cases h : a = b
  · rw [decide_eq_true h, if_pos h]
  · rw [decide_eq_false h, if_neg h]
def oG (o : Option (Option U)) (k : Str → Prop) (_ : Dm k) : Prop := match o with
  | some (some (.glo f)) => k f
  | _ => False
@[simp] theorem oG_some (f : Str) (k : Str → Prop) (d : Dm k) : oG (some (some (.glo f))) k d = k f := nrfl rfl
def oIns (o : Option (Option U)) (k : Str → List Str → List U → Prop) (_ : Dm k) : Prop := match o with
  | some (some (.ins c fs us)) => k c fs us
  | _ => False
@[simp] theorem oIns_some (c : Str) (fs : List Str) (us : List U) (k : Str → List Str → List U → Prop) (d : Dm k) : oIns (some (some (.ins c fs us))) k d = k c fs us := nrfl rfl
section
variable (Γ : UEnv) (X : ExK) (k : U → Prop) (kl : List U → Prop)
@[simp ↓] theorem vCD_str (t : CTab) (z : Str) : vCD t (.str z) X k = oK (t.lookup z) (fun d => k (toU d)) () := by
  unfold vCD oK; simp only; cases t.lookup z <;> rfl
@[simp ↓] theorem vCallL_def (i : Nat) (t : VTab) (pa : VE (List U)) : vCallL i t pa Γ X k = oG Γ[i]? (fun f => oK (t.lookup f) (fun p => pa Γ X fun us => cal p us X k ()) ()) () := by
  unfold vCallL oG oK
  generalize Γ[i]? = o
  match o with
  | none => rfl
  | some none => rfl
  | some (some (.glo f)) => simp only; cases t.lookup f <;> rfl
  | some (some .non) => rfl
  | some (some (.bl _)) => rfl
  | some (some (.int _)) => rfl
  | some (some (.str _)) => rfl
  | some (some (.tup _)) => rfl
  | some (some (.lst _)) => rfl
  | some (some (.dK _ _)) => rfl
  | some (some (.dT _ _)) => rfl
  | some (some (.ins _ _ _)) => rfl
  | some (some (.ref _)) => rfl
  | some (some (.cst _)) => rfl
  | some (some (.xv _ _ _ _)) => rfl
@[simp ↓] theorem vCal2_pick (pa pb : VE (List U)) (p : List U → ExK → (U → Prop) → Prop) (π : List Nat) : vCal2 pa pb (fun us ws => p (pick π us ws)) Γ X k = pa Γ X fun us => pb Γ X fun ws => cal p (pick π us ws) X k () := nrfl rfl
theorem pick_go {α : Type} (i : Nat) (π : List Nat) (us ws : List α) : pick (i :: π) us ws = ((us ++ ws)[i]?).toList ++ pick π us ws := by
  unfold pick
  rw [List.filterMap_cons]
  cases (us ++ ws)[i]? <;> rfl
theorem vFldC_def (C : List (Str × List Str)) (f c : Str) (fs : List Str) (us : List U) (l : List Str) (u : U) (h1 : C.lookup c = some l) (h2 : f ∈ l) (h3 : (fs.zip us).lookup f = some u) : vFldC C f (.ins c fs us) X k = k u := by
  unfold vFldC vFld
  simp only [h1, h2, h3, true_and]
@[simp ↓] theorem vEnum_tup (us : List U) : vEnum (.tup us) X kl = kl (numU 0 us) := nrfl rfl
@[simp ↓] theorem vEnum_lst (us : List U) : vEnum (.lst us) X kl = kl (numU 0 us) := nrfl rfl
@[simp ↓] theorem vMs_def (pm : VE U) (pa : VE (List U)) (f : U → List U → ExK → (U → Prop) → Prop) : vMs pm pa f Γ X k = pm Γ X fun u => (∃ x, u = .str x) ∧ pa Γ X fun us => f u us X k := nrfl rfl
@[simp ↓] theorem vIndexS_def (a b : Str) : vIndexS (.str a) [.str b] X k = oK (strIx a b) (fun i => k (.int i)) () := by
  unfold vIndexS oK; simp only; cases strIx a b <;> rfl
@[simp ↓] theorem vXf_def (cs : List Str) (c f : Str) (b : Bool) (ks : List Str) (us : List U) : vXf cs c f b (.xv 0 0 ks us) X k = ((b = true ∧ c ∈ cs) ∧ oK ((ks.zip us).lookup f) (fun u => k u) ()) := by
  unfold vXf oK; simp only; cases (ks.zip us).lookup f <;> rfl
theorem vXis_glo (tab : XTab) (c : Str) (b : Bool) (ks : List Str) (es : List U) (C : Str) : vXis tab c b [.xv 0 0 ks es, .glo C] X k = ((b = true → ks ≠ []) ∧ oK (xLook tab c (.glo C)) (fun r => k (.bl r)) ()) := by
  unfold vXis oK; simp only [uD]; cases xLook tab c (.glo C) <;> rfl
variable (nx : UEnv → Prop) (rt : U → Prop) (bk ct : UEnv → Prop) (ex : Str → EF → UEnv → Prop)
@[simp ↓] theorem vRaise_def (x f : Str) (pa : VE (List U)) : vRaise x f pa Γ ⟨nx, rt, bk, ct, ex⟩ = pa Γ (fun a g => ex a g Γ) fun us => us.length = 1 ∧ ex x (some ([f], us)) Γ := nrfl rfl
@[simp ↓] theorem vTry_def (ow : List Nat) (t : STab) (p : VS) (l : List VHnd) : vTry ow t p l Γ ⟨nx, rt, bk, ct, ex⟩ = p Γ ⟨nx, rt, bk, ct, fun c f Γ' => (ow ≠ [] → flatF f = true) ∧ vHnd t l c f Γ' ⟨nx, rt, bk, ct, ex⟩⟩ := nrfl rfl
theorem vHnd_nil (t : STab) (c : Str) (f : EF) : vHnd t [] c f Γ ⟨nx, rt, bk, ct, ex⟩ = ex c f Γ := nrfl rfl
@[simp ↓] theorem vFldS_def (C : List (Str × List Str)) (own : List Nat) (i : Nat) (f : Str) (pv : VE U) : vFldS C own i f pv Γ ⟨nx, rt, bk, ct, ex⟩ = pv (eraseU own Γ) (fun a g => ex a g Γ) fun v => oIns Γ[i]? (fun c fs us => (hasF C c f = true ∧ fs.length < 1000) ∧ nxt nx (Γ.set i (some (.ins c (putK f fs) (putV f v fs us)))) ()) () := by
  unfold vFldS oIns nxt
  rfl
@[simp ↓] theorem vMkI_def (C : Str) (n ar : Nat) (pb : VS) (us : List U) : vMkI C n ar pb us X k = (us.length + 1 = ar ∧ nxt (fun Γ => pb Γ ⟨fun Γ => oV Γ[0]? k (), fun _ => False, fun _ => False, fun _ => False, fun a f _ => X a f⟩) (some (.ins C [] []) :: (us.map some ++ List.replicate (n - ar) none)) ()) := nrfl rfl
end
end HV
namespace HV
open PySem PySem.Spec PyProof.Rows L2 HA
theorem pick_e {α : Type} (us ws : List α) : pick [] us ws = [] := rfl
@[simp] theorem tUnl_def (n : Nat) (r : List U → Option (List (Nat × U))) (us : List U) : tUnl n r (.lst us) = if us.length = n then r us else none := nrfl rfl
@[simp] theorem tStarL_def (n : Nat) (r : List U → Option (List (Nat × U))) (us : List U) : tStarL n r (.lst us) = if n ≤ us.length then r (us.take n ++ [.lst (us.drop n)]) else none := nrfl rfl
@[simp ↓] theorem vStrOf_def (z : Str) (X : ExK) (kl : List U → Prop) : vStrOf (.str z) X kl = kl (charsU z) := nrfl rfl
section
variable (Γ : UEnv) (X : ExK) (k : U → Prop) (kl : List U → Prop) (kb : Bool → Prop)
variable (nx : UEnv → Prop) (rt : U → Prop) (bk ct : UEnv → Prop) (ex : Str → EF → UEnv → Prop)
theorem forL_nil (vt : VTM) (body : VS) (d) : forL vt body [] Γ ⟨nx, rt, bk, ct, ex⟩ d = nx Γ := nrfl rfl
theorem forL_cons (vt : VTM) (body : VS) (u : U) (us : List U) (d) : forL vt body (u :: us) Γ ⟨nx, rt, bk, ct, ex⟩ d = oK (vt u) (fun bs => nxt (fun Γ => body Γ ⟨fun Γ' => forL vt body us Γ' ⟨nx, rt, bk, ct, ex⟩ (), rt, nx, fun Γ' => forL vt body us Γ' ⟨nx, rt, bk, ct, ex⟩ (), ex⟩) (setU Γ bs) ()) () := by
  unfold forL
  rw [vForL]
  unfold oK nxt
  cases vt u <;> rfl
theorem lcL_nil (vt : VTM) (pt : VE Bool) (pe : VE U) (d) : lcL vt pt pe Γ [] kl d = kl [] := nrfl rfl
theorem lcL_cons (vt : VTM) (pt : VE Bool) (pe : VE U) (u : U) (us : List U) (d) : lcL vt pt pe Γ (u :: us) kl d = oK (vt u) (fun bs => nxt (fun Γ1 => pt Γ1 XF fun t => if t = true then pe Γ1 XF fun y => lcL vt pt pe Γ us (fun ys => kl (y :: ys)) () else lcL vt pt pe Γ us kl ()) (setU Γ bs) ()) () := by
  unfold lcL
  rw [vLcL]
  unfold oK nxt
  cases vt u <;> rfl
theorem strOk_lit (s : String) : PyData.strOk (Str.ofString s) = true := by
  unfold PyData.strOk
  rw [Str.ofString_eq_toList, ← Array.all_toList, List.all_eq_true]
  intro c hc
  simp only [List.mem_map] at hc
  obtain ⟨ch, _, rfl⟩ := hc
  rw [decide_eq_true_eq]
  have := ch.valid
  unfold UInt32.isValidChar Nat.isValidChar at this
  show ch.val.toNat < _
  omega
theorem Pls.strs {n : Nat} (ns : List String) : Pls (n + 1) (ns.map fun s => U.str (Str.ofString s)) := Pls.all fun u hu => by obtain ⟨i, _, rfl⟩ := List.mem_map.mp hu; exact Pl.str (strOk_lit i)
theorem vIn_strs (a : String) (ns : List String) : vIn (.str (Str.ofString a)) (.tup (ns.map fun s => U.str (Str.ofString s))) X kb = kb (decide (a ∈ ns)) := by
  rw [vIn_tup]
  refine uIn_pl (Pl.str (n := 0) (strOk_lit a)) (Pls.strs (n := 0) ns) ?_
  simp only [decide_eq_true_eq, List.mem_map, U.str.injEq, ofS_inj]
  exact ⟨fun h => ⟨a, h, rfl⟩, fun ⟨s, h, e⟩ => e ▸ h⟩
theorem vIn_s2 (a b c : String) : vIn (.str (Str.ofString a)) (.tup [.str (Str.ofString b), .str (Str.ofString c)]) X kb = kb (decide (a ∈ [b, c])) := vIn_strs X kb a [b, c]
theorem vIn_s3 (a b c d : String) : vIn (.str (Str.ofString a)) (.tup [.str (Str.ofString b), .str (Str.ofString c), .str (Str.ofString d)]) X kb = kb (decide (a ∈ [b, c, d])) := vIn_strs X kb a [b, c, d]
end
end HV
namespace HV
open PySem PySem.Spec PyProof.Rows L2 HA
inductive Lp (σ : Type) where
  | nx (s : σ)
  | rt (u : U)
  | bk (s : σ)
  | ex (c : Str) (f : EF)
def Lp.go {σ : Type} (E : σ → UEnv) (nx bk : UEnv → Prop) (rt : U → Prop) (Xr : Str → EF → Prop) : Lp σ → Prop
  | .nx s => nx (E s)
  | .rt u => rt u
  | .bk s => bk (E s)
  | .ex c f => Xr c f
def foldLp {α σ : Type} (st : σ → α → Lp σ) : List α → σ → Lp σ
  | [], s => .nx s
  | x :: xs, s => match st s x with
    | .nx s' => foldLp st xs s'
    | .rt u => .rt u
    | .bk s' => .bk s'
    | .ex c f => .ex c f
section
variable {α σ : Type} {vt : VTM} {body : VS} {rt : U → Prop}
end
end HV
namespace HV
open PySem PySem.Spec PyProof.Rows L2 HA
section
variable (Γ : UEnv) (X : ExK) (k : U → Prop) (kl : List U → Prop)
@[simp ↓] theorem vExtend_def (xs zs : List U) (f : U → U → Prop) : vExtend (.lst xs) [.lst zs] f = (xs.length + zs.length ≤ line ∧ f .non (.lst (xs ++ zs))) := nrfl rfl
@[simp ↓] theorem vSplit_def (a b : Str) : vSplit (.str a) [.str b] X k = ((b.length ≠ 0 ∧ a.length + 2 ≤ line) ∧ k (.lst ((Txt.split a b).map U.str))) := nrfl rfl
@[simp ↓] theorem vUpper_def (a : Str) : vUpper (.str a) [] X k = (a.length ≤ 5592405 ∧ k (.str (Txt.upper a))) := nrfl rfl
@[simp ↓] theorem vJoin_lst (a : Str) (us : List U) : vJoin (.str a) [.lst us] X k = oK (optAll uStr us) (fun ys => (ys.map (·.length)).sum + ys.length * a.length ≤ 16777216 ∧ k (.str (Txt.join a ys))) () := by
  unfold vJoin oK; simp only [uIts2, Option.bind_some]; cases optAll uStr us <;> rfl
@[simp ↓] theorem vJoin_tup (a : Str) (us : List U) : vJoin (.str a) [.tup us] X k = oK (optAll uStr us) (fun ys => (ys.map (·.length)).sum + ys.length * a.length ≤ 16777216 ∧ k (.str (Txt.join a ys))) () := by
  unfold vJoin oK; simp only [uIts2, Option.bind_some]; cases optAll uStr us <;> rfl
theorem strs_optAll (ns : List Str) : optAll uStr (ns.map U.str) = some ns := by
  induction ns with
  | nil => rfl
  | cons n ns ih => simp [optAll, uStr, ih]
@[simp ↓] theorem vDGet1_def (pm pk : VE U) : vDGet1 pm pk Γ X k = pm Γ X fun u => (∃ ks us, u = .dK ks us) ∧ pk Γ X fun kd => vDGet u kd .non k := nrfl rfl
@[simp ↓] theorem vDGet2_def (pm pk px : VE U) : vDGet2 pm pk px Γ X k = pm Γ X fun u => (∃ ks us, u = .dK ks us) ∧ pk Γ X fun kd => px Γ X fun z => vDGet u kd z k := nrfl rfl
@[simp] theorem ex_dK (ks : List Key) (us : List U) : (∃ ks' us', U.dK ks us = .dK ks' us') = True := by simp
@[simp ↓] theorem vDGet_def (ks : List Key) (us : List U) (kd z : U) : vDGet (.dK ks us) kd z k = oK (uKey kd) (fun kk => k ((uVal ks us kk).getD z)) () := by
  unfold vDGet oK; simp only; cases uKey kd <;> rfl
end
end HV
namespace HV
open PySem PySem.Spec PyProof.Rows L2 HA
def o3 (us : List U) (k : U → U → U → Prop) (_ : Dm k) : Prop := match us with
  | [x, y, z] => k x y z
  | _ => False
@[simp] theorem o3_def (x y z : U) (k : U → U → U → Prop) (d : Dm k) : o3 [x, y, z] k d = k x y z := nrfl rfl
section
variable (Γ : UEnv) (nx : UEnv → Prop) (rt : U → Prop) (bk ct : UEnv → Prop) (ex : Str → EF → UEnv → Prop)
@[simp ↓] theorem vPar3_def (own : List Nat) (i j l : Nat) (p : VE (List U)) : vPar3 own i j l p Γ ⟨nx, rt, bk, ct, ex⟩ = p (eraseU own Γ) (fun a f => ex a f Γ) fun us => o3 us (fun x y z => nxt nx (((Γ.set i (some x)).set j (some y)).set l (some z)) ()) () := nrfl rfl
@[simp ↓] theorem vWh_def (pc : VE Bool) (body : VS) (n : Nat) : vWh pc body n Γ ⟨nx, rt, bk, ct, ex⟩ = whL pc body n Γ ⟨nx, rt, bk, ct, ex⟩ () := nrfl rfl
end
end HV
namespace HV
open PySem PySem.Spec PyProof.Rows L2 HA
def kG (o : Option D) (d : U) : U := match o with
  | some e => toU e
  | none => d
@[simp] theorem kG_some (e : D) (d : U) : kG (some e) d = toU e := nrfl rfl
@[simp] theorem kG_none (d : U) : kG none d = d := nrfl rfl
@[simp ↓] theorem vKGet_str (t : CTab) (z : Str) (d : U) (X : ExK) (k : U → Prop) : vKGet t (.str z) d X k = k (kG (t.lookup z) d) := by
  show (match t.lookup z with | some e => k (toU e) | none => k d) = _
  cases t.lookup z <;> rfl
end HV
namespace HV
open PySem PySem.Spec PyProof.Rows L2 HA
abbrev Sto := Nat → Option U
abbrev MP := Sto → Prop
abbrev ExS := Str → EF → MP
abbrev VZ (α : Type) := UEnv → ExS → (α → MP) → MP
def okS (σ : Sto) : Nat → Prop := fun n => 3 ≤ n ∧ σ n = none
def updS (σ : Sto) (n : Nat) (c : U) : Sto := fun m => if m = n then some c else σ m
structure StoR (σ : Sto) (ah : AH) : Prop where
  at' : ∀ n c, σ n = some c → 3 ≤ n ∧ ∃ o, ah[n]? = some o ∧ OR (okS σ) ah c o
structure GrowS (σ : Sto) (ah : AH) (σ' : Sto) (ah' : AH) : Prop where
  len : ah.length ≤ ah'.length
  same : ∀ n, 3 ≤ n → n < ah.length → σ n = none → ah'[n]? = ah[n]?
  dom : ∀ n, n < ah.length → σ n = none → σ' n = none
section
variable {σ σ' σ2 : Sto} {ah ah' ah2 : AH}
theorem GrowS.refl : GrowS σ ah σ ah := ⟨Nat.le_refl _, fun _ _ _ _ => rfl, fun _ _ h => h⟩
theorem GrowS.trans (h : GrowS σ ah σ' ah') (k : GrowS σ' ah' σ2 ah2) : GrowS σ ah σ2 ah2 :=
  ⟨Nat.le_trans h.len k.len, fun n h3 hn e => (k.same n h3 (Nat.lt_of_lt_of_le hn h.len) (h.dom n hn e)).trans (h.same n h3 hn e), fun n hn e => k.dom n (Nat.lt_of_lt_of_le hn h.len) (h.dom n hn e)⟩
theorem Grow.toS (g : Grow ah ah') : GrowS σ ah σ ah' := ⟨g.len, fun n h3 hn _ => g.same n h3 hn, fun _ _ e => e⟩
theorem StoR.lt (h : StoR σ ah) {n : Nat} {c : U} (e : σ n = some c) : n < ah.length := by
  obtain ⟨_, o, e2, _⟩ := h.at' n c e
  exact (List.getElem?_eq_some_iff.mp e2).1
theorem StoR.okf (h : StoR σ ah) (l3 : 3 ≤ ah.length) : OkF (okS σ) ah := ⟨fun n h => h.1, fun n hn => ⟨Nat.le_trans l3 hn, by
  cases e : σ n with
  | none => rfl
  | some c => exact absurd (h.lt e) (by omega)⟩⟩
theorem growS_ok (g : GrowS σ ah σ' ah') : ∀ n, (okS σ n ∧ n < ah.length) → okS σ' n := fun n h => ⟨h.1.1, g.dom n h.2 h.1.2⟩
theorem growS_sta (g : GrowS σ ah σ' ah') : Sta (fun n => okS σ n ∧ n < ah.length) ah ah' := fun n o h e => by rw [g.same n h.1.1 h.2 h.1.2]; exact e
theorem R.growS {u : U} {d : D} (h : R (okS σ) ah u d) (g : GrowS σ ah σ' ah') : R (okS σ') ah' u d := R.mono (growS_ok g) (growS_sta g) _ _ (R.inb _ _ h)
theorem Rs.growS {u : List U} {d : List D} (h : Rs (okS σ) ah u d) (g : GrowS σ ah σ' ah') : Rs (okS σ') ah' u d := Rs.mono (growS_ok g) (growS_sta g) _ _ (Rs.inb _ _ h)
theorem OR.growS {u : U} {o : AObj} (h : OR (okS σ) ah u o) (g : GrowS σ ah σ' ah') : OR (okS σ') ah' u o := (OR.inb h).mono (growS_ok g) (growS_sta g)
theorem RX.growS {f : EF} {fs : Option (List (Str × D))} (h : RX (okS σ) ah f fs) (g : GrowS σ ah σ' ah') : RX (okS σ') ah' f fs := by
  match f, h with
  | none, h => exact h
  | some (ks, us), ⟨kvs, e, z, r⟩ => exact ⟨kvs, e, z, Rs.growS r g⟩
theorem EnvR.growS {Γ : UEnv} {env : HA.Env} (h : EnvR (okS σ) ah Γ env) (g : GrowS σ ah σ' ah') : EnvR (okS σ') ah' Γ env :=
  ⟨h.len, fun i u e => let ⟨d, e1, r⟩ := h.at' i u e; ⟨d, e1, r.growS g⟩⟩
theorem StoR.grow (h : StoR σ ah) (g : Grow ah ah') : StoR σ ah' := ⟨fun n c e => by
  obtain ⟨h3, o, e2, r⟩ := h.at' n c e
  exact ⟨h3, o, by rw [g.same n h3 (h.lt e)]; exact e2, r.growS g.toS⟩⟩
end
class Inb {α β : Type} (Q : Rl α β) : Prop where
  inb : ∀ {ok : Nat → Prop} {ah : AH} {a : α} {b : β}, Q.r ok ah a b → Q.r (fun m => ok m ∧ m < ah.length) ah a b
instance : Inb RU := ⟨fun h => R.inb _ _ h⟩
instance : Inb RUs := ⟨fun h => Rs.inb _ _ h⟩
instance (α : Type) : Inb (REq α) := ⟨fun h => h⟩
instance : Inb RIt := ⟨fun h => ⟨Rs.inb _ _ h.1, fun p hp => ⟨⟨(h.2 p hp).1, (List.getElem?_eq_some_iff.mp (h.2 p hp).2).1⟩, (h.2 p hp).2⟩⟩⟩
theorem Rl.growS {α β : Type} (Q : Rl α β) [Inb Q] {σ σ' : Sto} {ah ah' : AH} {a : α} {b : β} (h : Q.r (okS σ) ah a b) (g : GrowS σ ah σ' ah') : Q.r (okS σ') ah' a b := Q.mono (growS_ok g) (growS_sta g) (Inb.inb h)
section
variable (K : Dks) {α β γ δ α' β' γ' δ' : Type}
def PRS (σ : Sto) (ah : AH) (N : Nat) (Q : Rl α β) (X : ExS) (k : α → MP) : Res β → Prop
  | .ok b ah' => ∃ a σ', k a σ' ∧ Q.r (okS σ') ah' a b ∧ GrowS σ ah σ' ah' ∧ StoR σ' ah' ∧ K.at' N ah'
  | .exn c fs ah' => ∃ f σ', X c f σ' ∧ RX (okS σ') ah' f fs ∧ GrowS σ ah σ' ah' ∧ StoR σ' ah' ∧ K.at' N ah'
  | .stuck => False
variable {K}
theorem PRS.le {σ : Sto} {ah : AH} {N M : Nat} {Q : Rl α β} {X : ExS} {k : α → MP} {r : Res β} (h : PRS K σ ah N Q X k r) (hM : N ≤ M) : PRS K σ ah M Q X k r := by
  revert h
  unfold PRS
  split
  · exact fun ⟨a, s, h1, h2, h3, h4, h5⟩ => ⟨a, s, h1, h2, h3, h4, K.mono h5 hM⟩
  · exact fun ⟨a, s, h1, h2, h3, h4, h5⟩ => ⟨a, s, h1, h2, h3, h4, K.mono h5 hM⟩
  · exact fun h => h
theorem PRS.after {σ σ1 : Sto} {ah ah1 : AH} {N : Nat} {Q : Rl α β} {X : ExS} {k : α → MP} {r : Res β} (h : PRS K σ1 ah1 N Q X k r) (g : GrowS σ ah σ1 ah1) : PRS K σ ah N Q X k r := by
  revert h
  unfold PRS
  split
  · exact fun ⟨a, s, h1, h2, h3, h4, h5⟩ => ⟨a, s, h1, h2, g.trans h3, h4, h5⟩
  · exact fun ⟨a, s, h1, h2, h3, h4, h5⟩ => ⟨a, s, h1, h2, g.trans h3, h4, h5⟩
  · exact fun h => h
theorem PRS.bind {σ : Sto} {ah : AH} {N M : Nat} {Q : Rl α β} {Q' : Rl γ δ} {X : ExS} {k : α → MP} {k' : γ → MP} {r : Res β} {f : β → AH → Res δ}
    (h : PRS K σ ah N Q X k r) (hN : N ≤ M) (hf : ∀ a b σ' ah', k a σ' → Q.r (okS σ') ah' a b → GrowS σ ah σ' ah' → StoR σ' ah' → K.at' N ah' → PRS K σ' ah' M Q' X k' (f b ah')) : PRS K σ ah M Q' X k' (r.bind f) := by
  cases r with
  | ok b ah' =>
    obtain ⟨a, s, ka, q, g, st, kk⟩ := h
    exact (hf a b s ah' ka q g st kk).after g
  | exn c fs ah' =>
    obtain ⟨f, s, x, q, g, st, kk⟩ := h
    exact ⟨f, s, x, q, g, st, K.mono kk hN⟩
  | stuck => exact h
theorem PRS.okI {σ : Sto} {ah : AH} {N : Nat} {Q : Rl α β} {X : ExS} {k : α → MP} {a : α} {b : β} (hk : k a σ) (q : Q.r (okS σ) ah a b) (st : StoR σ ah) (kk : K.at' N ah) : PRS K σ ah N Q X k (.ok b ah) := ⟨a, σ, hk, q, GrowS.refl, st, kk⟩
theorem PR.toS {σ : Sto} {ah : AH} {N : Nat} {Q : Rl α β} {X : ExS} {k : α → MP} {r : Res β} (st : StoR σ ah) (h : PR K (okS σ) ah N Q (fun c f => X c f σ) (fun a => k a σ) r) : PRS K σ ah N Q X k r := by
  cases r with
  | ok b ah' => obtain ⟨a, ka, q, g, kk⟩ := h; exact ⟨a, σ, ka, q, g.toS, st.grow g, kk⟩
  | exn c fs ah' => obtain ⟨f, x, q, g, kk⟩ := h; exact ⟨f, σ, x, q, g.toS, st.grow g, kk⟩
  | stuck => exact h
variable (K)
structure SE (Q : Rl α β) (c : Nat) (m : EM β) (p : VZ α) : Prop where
  to : ∀ {Γ : UEnv} {env : HA.Env} {σ : Sto} {ah : AH} {N : Nat} {X : ExS} {k : α → MP}, EnvR (okS σ) ah Γ env → StoR σ ah → K.at' N ah → N + cb c ≤ LIM → p Γ X k σ → PRS K σ ah (N + cb c) Q X k (m env ah)
structure SO1 (Q : Rl α β) (Q' : Rl γ δ) (c : Nat) (f : β → AH → Res δ) (p : α → ExS → (γ → MP) → MP) : Prop where
  to : ∀ {σ : Sto} {ah : AH} {N : Nat} {X : ExS} {k : γ → MP} {a : α} {b : β}, Q.r (okS σ) ah a b → StoR σ ah → K.at' N ah → N + cb c ≤ LIM → p a X k σ → PRS K σ ah (N + cb c) Q' X k (f b ah)
structure SO2 (Q : Rl α β) (Q1 : Rl α' β') (Q' : Rl γ δ) (f : β → β' → AH → Res δ) (p : α → α' → ExS → (γ → MP) → MP) : Prop where
  to : ∀ {σ : Sto} {ah : AH} {N : Nat} {X : ExS} {k : γ → MP} {a : α} {b : β} {a' : α'} {b' : β'}, Q.r (okS σ) ah a b → Q1.r (okS σ) ah a' b' → StoR σ ah → K.at' N ah → p a a' X k σ → PRS K σ ah N Q' X k (f b b' ah)
structure SO3 (Q : Rl α β) (Q1 : Rl α' β') (Q2 : Rl γ' δ') (Q' : Rl γ δ) (f : β → β' → δ' → AH → Res δ) (p : α → α' → γ' → ExS → (γ → MP) → MP) : Prop where
  to : ∀ {σ : Sto} {ah : AH} {N : Nat} {X : ExS} {k : γ → MP} {a : α} {b : β} {a' : α'} {b' : β'} {a2 : γ'} {b2 : δ'}, Q.r (okS σ) ah a b → Q1.r (okS σ) ah a' b' → Q2.r (okS σ) ah a2 b2 → StoR σ ah → K.at' N ah → p a a' a2 X k σ → PRS K σ ah N Q' X k (f b b' b2 ah)
def zE (p : VE α) : VZ α := fun Γ X k σ => p Γ (fun c f => X c f σ) (fun a => k a σ)
def zO1 (p : α → ExK → (γ → Prop) → Prop) : α → ExS → (γ → MP) → MP := fun a X k σ => p a (fun c f => X c f σ) (fun a => k a σ)
def zO2 (p : α → α' → ExK → (γ → Prop) → Prop) : α → α' → ExS → (γ → MP) → MP := fun a b X k σ => p a b (fun c f => X c f σ) (fun a => k a σ)
def zO3 (p : α → α' → γ' → ExK → (γ → Prop) → Prop) : α → α' → γ' → ExS → (γ → MP) → MP := fun a b c X k σ => p a b c (fun c f => X c f σ) (fun a => k a σ)
variable {K}
theorem se_le {Q : Rl α β} {c : Nat} {m : EM β} {p : VE α} (h : LE K Q c m p) : SE K Q c m (zE p) := ⟨fun {Γ env σ ah N X k} e st kk l x => PR.toS st (h.to (st.okf (K.len kk)) e kk l x)⟩
theorem so_1 {Q : Rl α β} {Q' : Rl γ δ} {c : Nat} {f : β → AH → Res δ} {p : α → ExK → (γ → Prop) → Prop} (h : LO1 K Q Q' c f p) : SO1 K Q Q' c f (zO1 p) := ⟨fun {σ ah N X k a b} q st kk l x => PR.toS st (h.to (st.okf (K.len kk)) q kk l x)⟩
def z1 (pa : VZ α) (f : α → ExS → (γ → MP) → MP) : VZ γ := fun Γ X k => pa Γ X fun a => f a X k
def z2 (pa : VZ α) (pb : VZ α') (f : α → α' → ExS → (γ → MP) → MP) : VZ γ := fun Γ X k => pa Γ X fun a => pb Γ X fun b => f a b X k
def z3 (pa : VZ α) (pb : VZ α') (pc : VZ γ') (f : α → α' → γ' → ExS → (γ → MP) → MP) : VZ γ := fun Γ X k => pa Γ X fun a => pb Γ X fun b => pc Γ X fun c => f a b c X k
theorem se_1 {Q : Rl α β} {Q' : Rl γ δ} {c c' : Nat} {m : EM β} {p : VZ α} {f : β → AH → Res δ} {pf : α → ExS → (γ → MP) → MP} (h : SE K Q c m p) (hf : SO1 K Q Q' c' f pf) : SE K Q' (sq c c') (e1 m f) (z1 p pf) := ⟨fun {Γ env σ ah N X k} e st kk l x => by
  have s := cb_sq c c'
  refine PRS.bind (h.to e st kk (by omega) x) (Nat.add_le_add_left (cb_left c c') N) fun a b σ' ah' ka q g st' k2 => ?_
  exact (hf.to q st' k2 (by omega) ka).le (by omega)⟩
theorem se_2 {Q : Rl α β} {Q1 : Rl α' β'} {Q' : Rl γ δ} [Inb Q] {c c' : Nat} {m : EM β} {p : VZ α} {m' : EM β'} {p' : VZ α'} {f : β → β' → AH → Res δ} {pf : α → α' → ExS → (γ → MP) → MP} (h : SE K Q c m p) (h' : SE K Q1 c' m' p') (hf : SO2 K Q Q1 Q' f pf) : SE K Q' (sq c c') (e2 m m' f) (z2 p p' pf) := ⟨fun {Γ env σ ah N X k} e st kk l x => by
  have s := cb_sq c c'
  refine PRS.bind (h.to e st kk (by omega) x) (Nat.add_le_add_left (cb_left c c') N) fun a b σ' ah' ka q g st' k2 => ?_
  refine PRS.bind ((h'.to (e.growS g) st' k2 (by omega) ka).le (M := N + cb (sq c c')) (by omega)) (Nat.le_refl _) fun a' b' σ2 ah2 ka2 q2 g2 st2 k3 => ?_
  exact hf.to (Q.growS q g2) q2 st2 k3 ka2⟩
theorem SE.weak {Q : Rl α β} {c c' : Nat} {m : EM β} {p : VZ α} (h : SE K Q c m p) (hc : cb c ≤ cb c') : SE K Q c' m p := ⟨fun e st kk l x => (h.to e st kk (by omega) x).le (by omega)⟩
def zaNil : VZ (List U) := fun _ _ k => k []
def zaCons (p : VZ U) (r : VZ (List U)) : VZ (List U) := z2 p r fun u us _ k => k (u :: us)
theorem se_anil : SE K RUs 0 aNil zaNil := ⟨fun {Γ env σ ah N X k} e st kk l x => .okI x (show Rs (okS σ) ah [] [] from Rs.nil) st kk⟩
theorem se_acons {c c' : Nat} {m : EM D} {p : VZ U} {r : EM (List D)} {pr : VZ (List U)} (h : SE K RU c m p) (h' : SE K RUs c' r pr) : SE K RUs (sq c c') (aCons m r) (zaCons p pr) :=
  se_2 (f := fun (x : D) (xs : List D) ah => Res.ok (x :: xs) ah) h h' ⟨fun q q' st kk x => .okI x (Rs.cons q q') st kk⟩
def zTup (p : VZ (List U)) : VZ U := z1 p fun us _ k σ => us.length ≤ line ∧ k (.tup us) σ
def zLst (p : VZ (List U)) : VZ (List U) := z1 p fun us _ k σ => us.length ≤ line ∧ k us σ
def zNew (p : VZ (List U)) : VZ U := z1 p fun us _ k => k (.lst us)
theorem PRS.newI {σ : Sto} {ah x : AH} {N : Nat} {Q : Rl α β} {X : ExS} {k : α → MP} {a : α} {b : β} (hk : k a σ) (q : Q.r (okS σ) (ah ++ x) a b) (st : StoR σ ah) (kk : K.at' N ah) : PRS K σ ah N Q X k (.ok b (ah ++ x)) := ⟨a, σ, hk, q, Grow.app.toS, st.grow Grow.app, K.app x kk⟩
theorem se_new {c : Nat} {m : EM (List D)} {p : VZ (List U)} (h : SE K RUs c m p) : SE K RU (sq c 0) (eNew m) (zNew p) := se_1 h ⟨fun {σ ah N X k a b} q st kk l x => by
  refine .newI x ?_ st kk
  show R (okS σ) _ (.lst a) (.ref _)
  simp only [R]
  exact ⟨ah.length, b, rfl, (st.okf (K.len kk)).fresh _ (Nat.le_refl _), by simp, Rs.growS q Grow.app.toS⟩⟩
theorem updS_same {σ : Sto} {n : Nat} {c : U} : updS σ n c n = some c := by simp [updS]
theorem updS_ne {σ : Sto} {n m : Nat} {c : U} (h : m ≠ n) : updS σ n c m = σ m := by simp [updS, h]
theorem StoR.new {σ : Sto} {ah ah' : AH} {c : U} {o : AObj} {n : Nat} (st : StoR σ ah) (l3 : 3 ≤ ah.length) (g : Grow ah ah') (hn : ah.length ≤ n) (e : ah'[n]? = some o) (r : OR (fun m => okS σ m ∧ m ≠ n) ah' c o) : σ n = none ∧ 3 ≤ n ∧ StoR (updS σ n c) ah' ∧ GrowS σ ah (updS σ n c) ah' := by
  have fr : σ n = none := by
    cases e : σ n with
    | none => rfl
    | some c => exact absurd (st.lt e) (by omega)
  have gs : GrowS σ ah (updS σ n c) ah' := ⟨g.len, fun m h3 hm _ => g.same m h3 hm, fun m hm e => by rw [updS_ne (by omega)]; exact e⟩
  refine ⟨fr, by omega, ⟨fun m c' em => ?_⟩, gs⟩
  by_cases z : m = n
  · subst z
    rw [updS_same] at em
    cases em
    refine ⟨by omega, o, e, r.mono (fun k hk => ⟨hk.1.1, by rw [updS_ne hk.2]; exact hk.1.2⟩) Sta.refl⟩
  · rw [updS_ne z] at em
    obtain ⟨h3, o', e2, r'⟩ := st.at' m c' em
    exact ⟨h3, o', by rw [g.same m h3 (st.lt em)]; exact e2, r'.growS gs⟩
def zNewS (p : VZ (List U)) : VZ U := z1 p fun us _ k σ => ∀ n, 3 ≤ n → σ n = none → k (.ref n) (updS σ n (.lst us))
theorem se_newS {c : Nat} {m : EM (List D)} {p : VZ (List U)} (h : SE K RUs c m p) : SE K RU (sq c 0) (eNew m) (zNewS p) := se_1 h ⟨fun {σ ah N X k a b} q st kk l x => by
  have l3 := K.len kk
  have o := st.okf l3
  have q' : Rs (okS σ) ah a b := q
  have nl : OR (fun m => okS σ m ∧ m ≠ ah.length) (ah ++ [.lst b]) (.lst a) (.lst b) := by
    show Rs _ _ a b
    have := Rs.inb _ _ q'
    exact Rs.mono (fun m h => ⟨h.1, by have := h.2; omega⟩) (fun m o h e => by rw [List.getElem?_append_left h.2]; exact e) _ _ this
  obtain ⟨f1, f2, f3, f4⟩ := st.new l3 (Grow.app (x := [.lst b])) (Nat.le_refl _) (by simp) nl
  exact ⟨_, _, x _ f2 f1, by simp only [RU, R], f4, f3, K.app _ kk⟩⟩
def zB (p : VZ Bool) : VZ U := z1 p fun b _ k => k (.bl b)
theorem PRS.ite {σ : Sto} {ah : AH} {N : Nat} {Q : Rl α β} {X : ExS} {k : α → MP} {a b : Res β} {t : Bool} {x y : MP} (h : (if t = true then x else y) σ) (ha : x σ → PRS K σ ah N Q X k a) (hb : y σ → PRS K σ ah N Q X k b) : PRS K σ ah N Q X k (if t = true then a else b) := by
  cases t with
  | true => exact ha h
  | false => exact hb h
def zAnd (a b : VZ Bool) : VZ Bool := fun Γ X k => a Γ X fun t => if t = true then b Γ X k else k false
def zOr (a b : VZ Bool) : VZ Bool := fun Γ X k => a Γ X fun t => if t = true then k true else b Γ X k
def zNot (a : VZ Bool) : VZ Bool := z1 a fun t _ k => k (!t)
theorem se_and {c c' : Nat} {m m' : EM Bool} {p p' : VZ Bool} (h : SE K (REq Bool) c m p) (h' : SE K (REq Bool) c' m' p') : SE K (REq Bool) (sq c c') (bAnd m m') (zAnd p p') := ⟨fun {Γ env σ ah N X k} e st kk l x => by
  have s := cb_sq c c'
  refine PRS.bind (h.to e st kk (by omega) x) (by omega) fun a b σ' ah' ka q g st' k2 => ?_
  cases q
  exact PRS.ite ka (fun z => (h'.to (e.growS g) st' k2 (by omega) z).le (by omega)) fun z => .okI z rfl st' (K.mono k2 (by omega))⟩
theorem se_or {c c' : Nat} {m m' : EM Bool} {p p' : VZ Bool} (h : SE K (REq Bool) c m p) (h' : SE K (REq Bool) c' m' p') : SE K (REq Bool) (sq c c') (bOr m m') (zOr p p') := ⟨fun {Γ env σ ah N X k} e st kk l x => by
  have s := cb_sq c c'
  refine PRS.bind (h.to e st kk (by omega) x) (by omega) fun a b σ' ah' ka q g st' k2 => ?_
  cases q
  exact PRS.ite ka (fun z => .okI z rfl st' (K.mono k2 (by omega))) fun z => (h'.to (e.growS g) st' k2 (by omega) z).le (by omega)⟩
theorem se_not {c : Nat} {m : EM Bool} {p : VZ Bool} (h : SE K (REq Bool) c m p) : SE K (REq Bool) (sq c 0) (bNot m) (zNot p) :=
  se_1 (f := fun b ah => Res.ok (!b) ah) h ⟨fun q st kk l x => .okI x (by cases q; rfl) st kk⟩
end
end HV
namespace HV
open PySem PySem.Spec PyProof.Rows L2 HA
section
variable {K : Dks} {α β γ δ α' β' γ' δ' : Type}
def zIf (c : VZ Bool) (a b : VZ α) : VZ α := fun Γ X k => c Γ X fun t => if t = true then a Γ X k else b Γ X k
def zTruth : U → ExS → (Bool → MP) → MP := zO1 vTruth
theorem so_truth : SO1 K RU (REq Bool) 0 truth zTruth := so_1 lo_truth
def zEAnd (a b : VZ U) : VZ U := fun Γ X k => a Γ X fun u => zTruth u X fun t => if t = true then b Γ X k else k u
def zEOr (a b : VZ U) : VZ U := fun Γ X k => a Γ X fun u => zTruth u X fun t => if t = true then k u else b Γ X k
def zENot (a : VZ U) : VZ U := z1 a fun u X k => zTruth u X fun t => k (.bl (!t))
abbrev Z1o (γ : Type) := U → ExS → (γ → MP) → MP
abbrev Z2o (γ : Type) := U → U → ExS → (γ → MP) → MP
def zChain (a b c : VZ U) (f g : Z2o Bool) : VZ Bool := fun Γ X k => a Γ X fun x => b Γ X fun y => f x y X fun t => if t = true then c Γ X fun z => g y z X k else k false
theorem StoR.lst {σ : Sto} {ah : AH} (st : StoR σ ah) {n : Nat} {us : List U} (e : σ n = some (.lst us)) : ∃ ds, ah[n]? = some (.lst ds) ∧ Rs (okS σ) ah us ds := by
  obtain ⟨_, o, e2, r⟩ := st.at' n _ e
  obtain ⟨ds, rfl, r⟩ := r.lst
  exact ⟨ds, e2, r⟩
theorem OR.ins {ok : Nat → Prop} {ah : AH} {C : Str} {fs : List Str} {us : List U} {o : AObj} (h : OR ok ah (.ins C fs us) o) : ∃ kvs, o = .ins C kvs ∧ kvs.map (·.1) = fs ∧ Rs ok ah us (kvs.map (·.2)) := by
  cases o with
  | ins C' kvs => obtain ⟨rfl, a, b⟩ := h; exact ⟨kvs, rfl, a, b⟩
  | _ => exact h.elim
theorem StoR.ins {σ : Sto} {ah : AH} (st : StoR σ ah) {n : Nat} {C : Str} {fs : List Str} {us : List U} (e : σ n = some (.ins C fs us)) : ∃ kvs, ah[n]? = some (.ins C kvs) ∧ kvs.map (·.1) = fs ∧ Rs (okS σ) ah us (kvs.map (·.2)) := by
  obtain ⟨_, o, e2, r⟩ := st.at' n _ e
  obtain ⟨kvs, rfl, r1, r2⟩ := OR.ins r
  exact ⟨kvs, e2, r1, r2⟩
theorem OR.dK {ok : Nat → Prop} {ah : AH} {ks : List Key} {us : List U} {o : AObj} (h : OR ok ah (.dK ks us) o) : ∃ kvs, o = .dK kvs ∧ kvs.map (·.1) = ks ∧ Rs ok ah us (kvs.map (·.2)) := by
  cases o with
  | dK kvs => exact ⟨kvs, rfl, h.1, h.2⟩
  | _ => exact h.elim
def lstS (σ : Sto) (n : Nat) (k : List U → Prop) : Prop := match σ n with
  | some (.lst us) => k us
  | _ => False
theorem lstS_at {σ : Sto} {n : Nat} {k : List U → Prop} (h : lstS σ n k) : ∃ us, σ n = some (.lst us) ∧ k us := by
  unfold lstS at h
  split at h
  · exact ⟨_, by assumption, h⟩
  · exact h.elim
def zIx : Z2o U
  | .ref n, .int i, _, k => fun σ => lstS σ n fun us => match ixD us i with
    | some u => k u σ
    | none => False
  | u, i, X, k => zO2 vIx u i X k
theorem RU_ref {ok : Nat → Prop} {ah : AH} {n : Nat} {d : D} (h : RU.r ok ah (.ref n) d) : d = .ref n := by
  have h' : R ok ah (.ref n) d := h
  simpa only [R] using h'
theorem R_ref {ok : Nat → Prop} {ah : AH} {n : Nat} {d : D} (h : R ok ah (.ref n) d) : d = .ref n := by simpa only [R] using h
def zListOf : Z1o (List U)
  | .ref n, _, k => fun σ => lstS σ n fun us => k us σ
  | u, X, k => zO1 vListOf u X k
def zSeqOf : Z1o (List U)
  | .ref n, _, k => fun σ => lstS σ n fun us => k us σ
  | u, X, k => zO1 vSeqOf u X k
def zLenA : List U → ExS → (U → MP) → MP
  | [.ref n], _, k => fun σ => lstS σ n fun us => k (.int us.length) σ
  | us, X, k => zO1 vLenA us X k
theorem so_len : SO1 K RUs RU 0 oLenA zLenA := ⟨fun {σ ah N X k a b} q st kk l x => by
  unfold zLenA at x
  split at x
  · have q' : Rs (okS σ) ah _ b := q
    simp only [Rs] at q'
    obtain ⟨d, es, rfl, q', rfl⟩ := q'
    rw [R_ref q']
    obtain ⟨us, e, x⟩ := lstS_at x
    obtain ⟨ds, e2, r⟩ := st.lst e
    unfold oLenA oLen
    simp only [e2]
    exact .okI x (by rw [r.len]; show R (okS σ) ah _ _; simp only [R]) st kk
  · exact (so_1 lo_len).to q st kk l x⟩
def insS (σ : Sto) (n : Nat) (k : Str → List Str → List U → Prop) : Prop := match σ n with
  | some (.ins C fs us) => k C fs us
  | _ => False
def zFld (Cs : List (Str × List Str)) (f : Str) : Z1o U
  | .ref n, _, k => fun σ => insS σ n fun C fs us => (match Cs.lookup C with
    | some l => f ∈ l
    | none => False) ∧ match (fs.zip us).lookup f with
    | some u => k u σ
    | none => False
  | u, X, k => zO1 (vFldC Cs f) u X k
def XFz : ExS := fun _ _ _ => False
def zLcL (vt : VTM) (pt : VZ Bool) (pe : VZ U) (Γ : UEnv) : List U → (List U → MP) → MP
  | [], k => k []
  | u :: us, k => fun σ => match vt u with
    | some bs => pt (setU Γ bs) XFz (fun t => if t = true then pe (setU Γ bs) XFz fun y => zLcL vt pt pe Γ us fun ys => k (y :: ys) else zLcL vt pt pe Γ us k) σ
    | none => False
def zLc (pi : VZ (List U)) (vt : VTM) (pt : VZ Bool) (pe : VZ U) (vs : List Nat) : VZ (List U) := fun Γ X k => pi Γ X fun us σ => us.length ≤ line ∧ zLcL vt pt pe (wipeU Γ vs) us k σ
theorem guard_growS {σ σ' : Sto} {ah ah' : AH} {t : Itm} (g : GrowS σ ah σ' ah') (hg : ∀ p, p ∈ t.guard → okS σ p.1 ∧ ah[p.1]? = some (.lst p.2)) : ∀ p, p ∈ t.guard → okS σ' p.1 ∧ ah'[p.1]? = some (.lst p.2) := fun p hp => by
  obtain ⟨a, e⟩ := hg p hp
  have hl := (List.getElem?_eq_some_iff.mp e).1
  exact ⟨growS_ok g _ ⟨a, hl⟩, by rw [g.same _ a.1 hl a.2]; exact e⟩
theorem lcLoop_Z {c c' : Nat} {t : Itm} {tm : TM} {vt : VTM} {ts : List Nat} {test : EM Bool} {elt : EM D} {pt : VZ Bool} {pe : VZ U} {vs : List Nat} {env : HA.Env} {Γ : UEnv} {X : ExS} (hT : LTg tm vt ts) (ht : SE K (REq Bool) c test pt) (he : SE K RU c' elt pe) :
    ∀ (us : List U) (ds : List D) (ua : List U) (acc : List D) (σ : Sto) (ah : AH) (N : Nat) (k : List U → MP), EnvR (okS σ) ah Γ env → StoR σ ah → K.at' N ah → (∀ p, p ∈ t.guard → okS σ p.1 ∧ ah[p.1]? = some (.lst p.2)) → N + us.length * cb (sq c c') ≤ LIM → Rs (okS σ) ah us ds → Rs (okS σ) ah ua acc → acc.length + us.length ≤ line → (zLcL vt pt pe (wipeU Γ vs) us (fun ys => k (ua ++ ys)) σ) → PRS K σ ah (N + us.length * cb (sq c c')) RUs X k (lcLoop t tm test elt vs env ds acc ah)
  | [], ds, ua, acc, σ, ah, N, k, e, st, kk, hg, l, r, ra, hl, x => by
    simp only [Rs] at r
    subst r
    unfold lcLoop
    rw [if_pos (okIn_of fun p hp => (hg p hp).2)]
    unfold zLcL at x
    rw [List.append_nil] at x
    exact .okI x ra st (by simpa using kk)
  | u :: us, ds, ua, acc, σ, ah, N, k, e, st, kk, hg, l, r, ra, hl, x => by
    simp only [Rs] at r
    obtain ⟨d, ds, rfl, q, r⟩ := r
    have s := cb_sq c c'
    rw [List.length_cons, Nat.add_mul, Nat.one_mul] at l
    rw [List.length_cons] at hl
    unfold zLcL at x
    split at x
    · rename_i bs hb
      obtain ⟨cs, h1, h2, _⟩ := hT.to (wipeE env vs) q hb
      have e1 : EnvR (okS σ) ah (setU (wipeU Γ vs) bs) (setD (wipeE env vs) cs) := (e.wipe vs).sets h2
      unfold lcLoop
      rw [if_pos ⟨okIn_of fun p hp => (hg p hp).2, by omega⟩, h1]
      simp only
      have w := ht.to e1 st kk (by omega) x
      cases z : test (setD (wipeE env vs) cs) ah with
      | stuck => rw [z] at w; exact w.elim
      | exn a f h => rw [z] at w; obtain ⟨f, _, y, _⟩ := w; exact y.elim
      | ok b ah1 =>
        rw [z] at w
        obtain ⟨b', σ1, kb, rfl, g, st1, k1⟩ := w
        have hg1 := guard_growS g hg
        cases b' with
        | true =>
          simp only [if_true] at kb ⊢
          have w := he.to (e1.growS g) st1 k1 (by omega) kb
          cases z : elt (setD (wipeE env vs) cs) ah1 with
          | stuck => rw [z] at w; exact w.elim
          | exn a f h => rw [z] at w; obtain ⟨f, _, y, _⟩ := w; exact y.elim
          | ok y ah2 =>
            rw [z] at w
            obtain ⟨y', σ2, ky, qy, g2, st2, k2⟩ := w
            have gg := g.trans g2
            have := lcLoop_Z (X := X) hT ht he us ds (ua ++ [y']) (acc ++ [y]) σ2 ah2 (N + cb c + cb c') k (e.growS gg) st2 k2 (guard_growS gg hg) (by omega) (r.growS gg) ((ra.growS gg).app (Rs.cons qy Rs.nil)) (by rw [List.length_append, List.length_singleton]; omega) (by simpa [List.append_assoc] using ky)
            simp only
            exact PRS.le (M := N + (us.length + 1) * cb (sq c c')) (this.after gg) (by rw [Nat.add_mul, Nat.one_mul]; omega)
        | false =>
          simp only [Bool.false_eq_true, if_false] at kb ⊢
          have := lcLoop_Z (X := X) hT ht he us ds ua acc σ1 ah1 (N + cb c) k (e.growS g) st1 k1 hg1 (by omega) (r.growS g) (ra.growS g) (by omega) kb
          exact PRS.le (M := N + (us.length + 1) * cb (sq c c')) (this.after g) (by rw [Nat.add_mul, Nat.one_mul]; omega)
    · exact x.elim
theorem se_lc {ci c c' : Nat} {mi : EM Itm} {pi : VZ (List U)} {tm : TM} {vt : VTM} {ts : List Nat} {test : EM Bool} {elt : EM D} {pt : VZ Bool} {pe : VZ U} {vs : List Nat} (hi : SE K RIt ci mi pi) (hT : LTg tm vt ts) (ht : SE K (REq Bool) c test pt) (he : SE K RU c' elt pe) : SE K RUs (sq ci (lp (sq c c'))) (lLc mi tm test elt vs) (zLc pi vt pt pe vs) := ⟨fun {Γ env σ ah N X k} e st kk l x => by
  have s := cb_sq ci (lp (sq c c'))
  refine PRS.bind (hi.to e st kk (by omega) x) (by omega) fun us t σ1 ah1 ka q g st1 k1 => ?_
  obtain ⟨hl, ka⟩ := ka
  obtain ⟨q, hg⟩ := q
  have b := cb_lp (sq c c') us.length hl
  exact (lcLoop_Z hT ht he us t.items [] [] σ1 ah1 (N + cb ci) k (e.growS g) st1 k1 hg (by omega) q Rs.nil (by simpa using hl) (by simpa using ka)).le (by omega)⟩
instance : Inb RLt := ⟨fun {ok ah a b} h => by
  cases b with
  | inl ds => exact Rs.inb _ _ h
  | inr n => obtain ⟨ds, o, e, r⟩ := h; exact ⟨ds, ⟨o, (List.getElem?_eq_some_iff.mp e).1⟩, e, Rs.inb _ _ r⟩⟩
end
end HV
namespace HV
open PySem PySem.Spec PyProof.Rows L2 HA
structure SZ where
  nx : UEnv → MP
  rt : U → MP
  bk : UEnv → MP
  ct : UEnv → MP
  ex : Str → EF → UEnv → MP
abbrev VQ := UEnv → SZ → MP
section
variable (K : Dks)
def PQR (σ : Sto) (ah : AH) (N : Nat) (S : SZ) : SRes → Prop
  | .nx env' ah' => ∃ Γ' σ', S.nx Γ' σ' ∧ EnvR (okS σ') ah' Γ' env' ∧ GrowS σ ah σ' ah' ∧ StoR σ' ah' ∧ K.at' N ah'
  | .rt d ah' => ∃ u σ', S.rt u σ' ∧ R (okS σ') ah' u d ∧ GrowS σ ah σ' ah' ∧ StoR σ' ah' ∧ K.at' N ah'
  | .bk env' ah' => ∃ Γ' σ', S.bk Γ' σ' ∧ EnvR (okS σ') ah' Γ' env' ∧ GrowS σ ah σ' ah' ∧ StoR σ' ah' ∧ K.at' N ah'
  | .ct env' ah' => ∃ Γ' σ', S.ct Γ' σ' ∧ EnvR (okS σ') ah' Γ' env' ∧ GrowS σ ah σ' ah' ∧ StoR σ' ah' ∧ K.at' N ah'
  | .exn c fs env' ah' => ∃ f Γ' σ', S.ex c f Γ' σ' ∧ RX (okS σ') ah' f fs ∧ EnvR (okS σ') ah' Γ' env' ∧ GrowS σ ah σ' ah' ∧ StoR σ' ah' ∧ K.at' N ah'
  | .stuck => False
structure SS (c : Nat) (m : SM) (p : VQ) : Prop where
  to : ∀ {Γ : UEnv} {env : HA.Env} {σ : Sto} {ah : AH} {N : Nat} {S : SZ}, EnvR (okS σ) ah Γ env → StoR σ ah → K.at' N ah → N + cb c ≤ LIM → p Γ S σ → PQR K σ ah (N + cb c) S (m env ah)
end
section
variable {K : Dks}
theorem PQR.le {σ : Sto} {ah : AH} {N M : Nat} {S : SZ} {r : SRes} (h : PQR K σ ah N S r) (hM : N ≤ M) : PQR K σ ah M S r := by
  revert h
  unfold PQR
  split
  · exact fun ⟨a, s, h1, h2, h3, h4, h5⟩ => ⟨a, s, h1, h2, h3, h4, K.mono h5 hM⟩
  · exact fun ⟨a, s, h1, h2, h3, h4, h5⟩ => ⟨a, s, h1, h2, h3, h4, K.mono h5 hM⟩
  · exact fun ⟨a, s, h1, h2, h3, h4, h5⟩ => ⟨a, s, h1, h2, h3, h4, K.mono h5 hM⟩
  · exact fun ⟨a, s, h1, h2, h3, h4, h5⟩ => ⟨a, s, h1, h2, h3, h4, K.mono h5 hM⟩
  · exact fun ⟨f, a, s, h1, h2, h3, h4, h5, h6⟩ => ⟨f, a, s, h1, h2, h3, h4, h5, K.mono h6 hM⟩
  · exact fun h => h
theorem PQR.after {σ σ1 : Sto} {ah ah1 : AH} {N : Nat} {S : SZ} {r : SRes} (h : PQR K σ1 ah1 N S r) (g : GrowS σ ah σ1 ah1) : PQR K σ ah N S r := by
  revert h
  unfold PQR
  split
  · exact fun ⟨a, s, h1, h2, h3, h4, h5⟩ => ⟨a, s, h1, h2, g.trans h3, h4, h5⟩
  · exact fun ⟨a, s, h1, h2, h3, h4, h5⟩ => ⟨a, s, h1, h2, g.trans h3, h4, h5⟩
  · exact fun ⟨a, s, h1, h2, h3, h4, h5⟩ => ⟨a, s, h1, h2, g.trans h3, h4, h5⟩
  · exact fun ⟨a, s, h1, h2, h3, h4, h5⟩ => ⟨a, s, h1, h2, g.trans h3, h4, h5⟩
  · exact fun ⟨f, a, s, h1, h2, h3, h4, h5, h6⟩ => ⟨f, a, s, h1, h2, h3, g.trans h4, h5, h6⟩
  · exact fun h => h
theorem PQR.expr {α β : Type} {Q : Rl α β} {Γ : UEnv} {env : HA.Env} {σ : Sto} {ah : AH} {N M : Nat} {S : SZ} {k : α → MP} {r : Res β} {f : β → AH → SRes} (e : EnvR (okS σ) ah Γ env)
    (h : PRS K σ ah N Q (fun a f => S.ex a f Γ) k r) (hN : N ≤ M) (hf : ∀ a x σ' ah', k a σ' → Q.r (okS σ') ah' a x → GrowS σ ah σ' ah' → EnvR (okS σ') ah' Γ env → StoR σ' ah' → K.at' N ah' → PQR K σ' ah' M S (f x ah')) : PQR K σ ah M S (r.thenS env f) := by
  cases r with
  | ok x ah' =>
    obtain ⟨a, s, ka, q, g, st, kk⟩ := h
    exact (hf a x s ah' ka q g (e.growS g) st kk).after g
  | exn c fs ah' =>
    obtain ⟨f, s, x, q, g, st, kk⟩ := h
    exact ⟨f, Γ, s, x, q, e.growS g, g, st, K.mono kk hN⟩
  | stuck => exact h
def qSkip : VQ := fun Γ S => S.nx Γ
def qSeq (a b : VQ) : VQ := fun Γ S => a Γ ⟨fun Γ' => b Γ' S, S.rt, S.bk, S.ct, S.ex⟩
def qRet (p : VZ U) : VQ := fun Γ S => p Γ (fun a f => S.ex a f Γ) S.rt
def qRetN : VQ := fun _ S => S.rt .non
def qExpr (p : VZ U) : VQ := fun Γ S => p Γ (fun a f => S.ex a f Γ) fun _ => S.nx Γ
def qAsg (p : VZ U) (t : VTM) : VQ := fun Γ S => p Γ (fun a f => S.ex a f Γ) fun u σ => match t u with
  | some bs => S.nx (setU Γ bs) σ
  | none => False
def qIf (c : VZ Bool) (a b : VQ) : VQ := fun Γ S => c Γ (fun a f => S.ex a f Γ) fun t => if t = true then a Γ S else b Γ S
def qBk : VQ := fun Γ S => S.bk Γ
def qCt : VQ := fun Γ S => S.ct Γ
theorem ss_skip : SS K 0 sSkip qSkip := ⟨fun e st kk l x => ⟨_, _, x, e, GrowS.refl, st, kk⟩⟩
theorem ss_seq {c c' : Nat} {m m' : SM} {p p' : VQ} (h : SS K c m p) (h' : SS K c' m' p') : SS K (sq c c') (sSeq m m') (qSeq p p') := ⟨fun {Γ env σ ah N S} e st kk l x => by
  have s := cb_sq c c'
  have w := h.to e st kk (by omega) x
  unfold sSeq
  cases z : m env ah with
  | nx env1 ah1 =>
    rw [z] at w
    obtain ⟨Γ', σ', y1, y2, y3, y4, y5⟩ := w
    exact ((h'.to y2 y4 y5 (by omega) y1).after y3).le (by omega)
  | rt d ah1 => rw [z] at w; exact PQR.le (N := N + cb c) w (by omega)
  | bk d ah1 => rw [z] at w; exact PQR.le (N := N + cb c) w (by omega)
  | ct d ah1 => rw [z] at w; exact PQR.le (N := N + cb c) w (by omega)
  | exn a b d ah1 => rw [z] at w; exact PQR.le (N := N + cb c) w (by omega)
  | stuck => rw [z] at w; exact w⟩
theorem ss_ret {c : Nat} {m : EM D} {p : VZ U} (h : SE K RU c m p) : SS K c (sRet m) (qRet p) := ⟨fun {Γ env σ ah N S} e st kk l x =>
  PQR.expr e (h.to e st kk l x) (Nat.le_refl _) fun a d σ' ah' ka q g e' st' kk' => ⟨a, σ', ka, q, GrowS.refl, st', kk'⟩⟩
theorem ss_asg {c : Nat} {m : EM D} {p : VZ U} {tm : TM} {vt : VTM} {ts : List Nat} (h : SE K RU c m p) (hT : LTg tm vt ts) : SS K c (sAsg m tm) (qAsg p vt) := ⟨fun {Γ env σ ah N S} e st kk l x =>
  PQR.expr e (h.to e st kk l x) (Nat.le_refl _) fun a d σ' ah' ka q g e' st' kk' => by
    split at ka
    · rename_i bs hbs
      obtain ⟨cs, h1, h2, h3⟩ := hT.to env q hbs
      rw [h1]
      exact ⟨_, σ', ka, e'.sets h2, GrowS.refl, st', kk'⟩
    · exact ka.elim⟩
theorem PQR.ite {σ : Sto} {ah : AH} {N : Nat} {S : SZ} {a b : SRes} {t : Bool} {x y : MP} (h : (if t = true then x else y) σ) (ha : x σ → PQR K σ ah N S a) (hb : y σ → PQR K σ ah N S b) : PQR K σ ah N S (if t = true then a else b) := by
  cases t with
  | true => exact ha h
  | false => exact hb h
theorem ss_if {c c1 c2 : Nat} {mc : EM Bool} {pc : VZ Bool} {m m' : SM} {p p' : VQ} (hc : SE K (REq Bool) c mc pc) (h : SS K c1 m p) (h' : SS K c2 m' p') : SS K (sq c (sq c1 c2)) (sIf mc m m') (qIf pc p p') := ⟨fun {Γ env σ ah N S} e st kk l x => by
  have s := cb_sq c (sq c1 c2)
  have s' := cb_sq c1 c2
  refine PQR.expr e (hc.to e st kk (by omega) x) (by omega) fun a b σ' ah' ka q g e' st' k2 => ?_
  cases q
  exact PQR.ite ka (fun z => (h.to e' st' k2 (by omega) z).le (by omega)) fun z => (h'.to e' st' k2 (by omega) z).le (by omega)⟩
def qForL (vt : VTM) (body : VQ) : List U → UEnv → SZ → MP
  | [], Γ, S => S.nx Γ
  | u :: us, Γ, S => fun σ => match vt u with
    | some bs => body (setU Γ bs) ⟨fun Γ' => qForL vt body us Γ' S, S.rt, S.nx, fun Γ' => qForL vt body us Γ' S, S.ex⟩ σ
    | none => False
def qFor (pi : VZ (List U)) (vt : VTM) (body : VQ) : VQ := fun Γ S => pi Γ (fun a f => S.ex a f Γ) fun us => qForL vt body us Γ S
def qForB (pi : VZ (List U)) (vt : VTM) (body : VQ) : VQ := fun Γ S => pi Γ (fun a f => S.ex a f Γ) fun us σ => us.length ≤ line ∧ qForL vt body us Γ S σ
theorem forLoop_Z {c : Nat} {t : Itm} {tm : TM} {vt : VTM} {ts : List Nat} {body : SM} {pb : VQ} {S : SZ} (hT : LTg tm vt ts) (hb : SS K c body pb) :
    ∀ (us : List U) (ds : List D) (Γ : UEnv) (env : HA.Env) (σ : Sto) (ah : AH) (N : Nat), EnvR (okS σ) ah Γ env → StoR σ ah → K.at' N ah → (∀ q, q ∈ t.guard → okS σ q.1 ∧ ah[q.1]? = some (.lst q.2)) → N + us.length * cb c ≤ LIM → Rs (okS σ) ah us ds → qForL vt pb us Γ S σ → PQR K σ ah (N + us.length * cb c) S (forLoop t tm body ds env ah)
  | [], ds, Γ, env, σ, ah, N, e, st, kk, hg, l, r, x => by
    simp only [Rs] at r
    subst r
    unfold forLoop
    rw [if_pos (okIn_of fun p hp => (hg p hp).2)]
    exact ⟨Γ, σ, x, e, GrowS.refl, st, by simpa using kk⟩
  | u :: us, ds, Γ, env, σ, ah, N, e, st, kk, hg, l, r, x => by
    simp only [Rs] at r
    obtain ⟨d, ds, rfl, q, r⟩ := r
    rw [List.length_cons, Nat.add_mul, Nat.one_mul] at l ⊢
    unfold qForL at x
    split at x
    · rename_i bs hbs
      obtain ⟨cs, h1, h2, h3⟩ := hT.to env q hbs
      unfold forLoop
      rw [if_pos (okIn_of fun p hp => (hg p hp).2), h1]
      simp only
      have w := hb.to (e.sets h2) st kk (by omega) x
      have go : ∀ (Γ' : UEnv) (env' : HA.Env) (σ' : Sto) (ah' : AH), qForL vt pb us Γ' S σ' → EnvR (okS σ') ah' Γ' env' → GrowS σ ah σ' ah' → StoR σ' ah' → K.at' (N + cb c) ah' → PQR K σ ah (N + (us.length * cb c + cb c)) S (forLoop t tm body ds env' ah') := fun Γ' env' σ' ah' y1 y2 y3 y4 y5 =>
        ((forLoop_Z hT hb us ds Γ' env' σ' ah' (N + cb c) y2 y4 y5 (guard_growS y3 hg) (by omega) (r.growS y3) y1).after y3).le (by omega)
      cases z : body (setD env cs) ah with
      | nx env1 ah1 => rw [z] at w; obtain ⟨Γ', σ', y1, y2, y3, y4, y5⟩ := w; exact go Γ' env1 σ' ah1 y1 y2 y3 y4 y5
      | ct env1 ah1 => rw [z] at w; obtain ⟨Γ', σ', y1, y2, y3, y4, y5⟩ := w; exact go Γ' env1 σ' ah1 y1 y2 y3 y4 y5
      | bk env1 ah1 => rw [z] at w; obtain ⟨Γ', σ', y1, y2, y3, y4, y5⟩ := w; exact ⟨Γ', σ', y1, y2, y3, y4, K.mono y5 (by omega)⟩
      | rt d ah1 => rw [z] at w; exact PQR.le (N := N + cb c) (r := .rt d ah1) w (by omega)
      | exn a fs e ah1 => rw [z] at w; exact PQR.le (N := N + cb c) (r := .exn a fs e ah1) w (by omega)
      | stuck => rw [z] at w; exact w.elim
    · exact x.elim
theorem ss_for {c : Nat} {mi : EM Itm} {pi : VZ (List U)} {tm : TM} {vt : VTM} {ts : List Nat} {body : SM} {pb : VQ} (hi : SE K RIt c mi pi) (hT : LTg tm vt ts) (hb : SS K 0 body pb) : SS K c (sFor mi tm body) (qFor pi vt pb) := ⟨fun {Γ env σ ah N S} e st kk l x =>
  PQR.expr (N := N + cb c) e (hi.to e st kk l x) (Nat.le_refl _) fun us t σ' ah' ka q g e' st' kk' => by
    have := forLoop_Z hT hb us t.items Γ env σ' ah' (N + cb c) e' st' kk' q.2 (by rw [cb_zero]; omega) q.1 ka
    exact this.le (by rw [cb_zero]; omega)⟩
theorem ss_forB {c c' : Nat} {mi : EM Itm} {pi : VZ (List U)} {tm : TM} {vt : VTM} {ts : List Nat} {body : SM} {pb : VQ} (hi : SE K RIt c mi pi) (hT : LTg tm vt ts) (hb : SS K c' body pb) : SS K (sq c (lp c')) (sFor mi tm body) (qForB pi vt pb) := ⟨fun {Γ env σ ah N S} e st kk l x => by
  have s := cb_sq c (lp c')
  refine PQR.expr (N := N + cb c) e (hi.to e st kk (by omega) x) (by omega) fun us t σ' ah' ka q g e' st' kk' => ?_
  have lb := cb_lp c' us.length ka.1
  have := forLoop_Z hT hb us t.items Γ env σ' ah' (N + cb c) e' st' kk' q.2 (by omega) q.1 ka.2
  exact this.le (by omega)⟩
def qWh (pc : VZ Bool) (body : VQ) : Nat → VQ
  | 0 => fun _ _ _ => False
  | n + 1 => fun Γ S => pc Γ (fun a f => S.ex a f Γ) fun t => if t = true then body Γ ⟨fun Γ' => qWh pc body n Γ' S, S.rt, S.nx, fun Γ' => qWh pc body n Γ' S, S.ex⟩ else S.nx Γ
def qPar2 (i j : Nat) (p : VZ (List U)) : VQ := fun Γ S => p Γ (fun a f => S.ex a f Γ) fun us σ => match us with
  | [x, y] => S.nx ((Γ.set i (some x)).set j (some y)) σ
  | _ => False
theorem StoR.put {σ : Sto} {ah : AH} {n : Nat} {c c' : U} {o' : AObj} (st : StoR σ ah) (e : σ n = some c) (r : OR (okS σ) ah c' o') : StoR (updS σ n c') (ah.set n o') ∧ GrowS σ ah (updS σ n c') (ah.set n o') := by
  have hl := st.lt e
  have dm : ∀ m, updS σ n c' m = none ↔ σ m = none := fun m => by
    by_cases z : m = n
    · subst z; rw [updS_same, e]; simp
    · rw [updS_ne z]
  have gs : GrowS σ ah (updS σ n c') (ah.set n o') := ⟨by simp, fun m h3 hm em => List.getElem?_set_ne (fun z => by subst z; rw [e] at em; cases em), fun m hm em => (dm m).mpr em⟩
  refine ⟨⟨fun m x em => ?_⟩, gs⟩
  by_cases z : m = n
  · subst z
    rw [updS_same] at em
    cases em
    exact ⟨(st.at' m c e).1, o', by rw [List.getElem?_set_self hl], r.growS gs⟩
  · rw [updS_ne z] at em
    obtain ⟨h3, o, e2, r'⟩ := st.at' m x em
    exact ⟨h3, o, by rw [List.getElem?_set_ne (fun w => z w.symm)]; exact e2, r'.growS gs⟩
def qSetL (pi po pv : VZ U) : VQ := fun Γ S => pv Γ (fun a f => S.ex a f Γ) fun v => po Γ (fun a f => S.ex a f Γ) fun o => pi Γ (fun a f => S.ex a f Γ) fun kd σ => match o, kd with
  | .ref n, .int q => lstS σ n fun xs => match ixN xs.length q with
    | some j => S.nx Γ (updS σ n (.lst (xs.set j v)))
    | none => False
  | _, _ => False
def zMt (po : VZ U) (pa : VZ (List U)) (vf : VMt) : VZ U := fun Γ X k => po Γ X fun o σ => match o with
  | .ref n => lstS σ n fun _ => pa Γ X (fun us σ1 => match σ1 n with
    | some c => vf c us fun r c' => k r (updS σ1 n c')
    | none => False) σ
  | _ => False
theorem se_mt {c c' : Nat} {mo : EM D} {ml : EM (List D)} {po : VZ U} {pa : VZ (List U)} {f : D → List D → AH → Res D} {vf : VMt} (ho : SE K RU c mo po) (ha : SE K RUs c' ml pa) (hf : LMt f vf) : SE K RU (sq c c') (eMt mo ml f) (zMt po pa vf) := ⟨fun {Γ env σ ah N X k} e st kk l x => by
  have s := cb_sq c c'
  refine PRS.bind (ho.to e st kk (by omega) x) (by omega) fun o d σ1 ah1 ka q g st1 k1 => ?_
  split at ka
  · rename_i n
    rw [RU_ref q]
    obtain ⟨xs, es, y⟩ := lstS_at ka
    obtain ⟨ds0, ea, r0⟩ := st1.lst es
    have il : isList (.ref n) ah1 = true := by unfold isList HA.listAt; simp only [ea]; rfl
    simp only [il, if_true]
    refine PRS.bind ((ha.to (e.growS g) st1 k1 (by omega) y).le (M := N + cb (sq c c')) (by omega)) (Nat.le_refl _) fun us ds σ2 ah2 ka2 q2 g2 st2 k2 => ?_
    split at ka2
    · rename_i cc ec
      obtain ⟨h3, ob, eo, ro⟩ := st2.at' n cc ec
      have hn : ¬ okS σ2 n := fun h => by rw [h.2] at ec; cases ec
      obtain ⟨d', o', r, u', w1, w2, w3, w4⟩ := hf.to hn eo ro q2 ka2
      rw [w1]
      obtain ⟨f1, f2⟩ := st2.put ec w4
      exact ⟨r, _, w2, R.growS w3 f2, f2, f1, K.set k2 h3⟩
    · exact ka2.elim
  · exact ka.elim⟩
end
end HV
namespace HV
open PySem PySem.Spec PyProof.Rows L2 HA
section
variable {K : Dks}
def qFld (Cs : List (Str × List Str)) (f : Str) (po pv : VZ U) : VQ := fun Γ S => pv Γ (fun a g => S.ex a g Γ) fun v => po Γ (fun a g => S.ex a g Γ) fun o σ => match o with
  | .ref n => insS σ n fun C fs us => (hasF Cs C f = true ∧ fs.length < 1000) ∧ S.nx Γ (updS σ n (.ins C (putK f fs) (putV f v fs us)))
  | _ => False
def qFn (n ar : Nat) (pb : VQ) : List U → ExS → (U → MP) → MP := fun us X k σ => us.length = ar ∧ pb (us.map some ++ List.replicate (n - us.length) none) ⟨fun _ => k .non, k, fun _ _ => False, fun _ _ => False, fun a f _ => X a f⟩ σ
abbrev SF (K : Dks) (c : Nat) (m : List D → AH → Res D) (p : List U → ExS → (U → MP) → MP) : Prop := SO1 K RUs RU c m p
def rst (σ τ : Sto) : Sto := fun n => if (σ n).isSome then τ n else none
theorem rst_none {σ τ : Sto} {n : Nat} (h : τ n = none) : rst σ τ n = none := by unfold rst; split <;> simp [h]
theorem rst_some {σ τ : Sto} {n : Nat} {c : U} (h : rst σ τ n = some c) : τ n = some c := by
  unfold rst at h
  split at h
  · exact h
  · cases h
theorem StoR.rst {σ τ : Sto} {ah : AH} (st : StoR τ ah) : StoR (rst σ τ) ah := ⟨fun n c e => by
  obtain ⟨h3, o, e2, r⟩ := st.at' n c (rst_some e)
  exact ⟨h3, o, e2, r.mono (fun m h => ⟨h.1, rst_none h.2⟩) Sta.refl⟩⟩
theorem R.rst {σ τ : Sto} {ah : AH} {u : U} {d : D} (h : R (okS τ) ah u d) : R (okS (rst σ τ)) ah u d := R.mono (fun m h => ⟨h.1, rst_none h.2⟩) Sta.refl _ _ h
theorem RX.rst {σ τ : Sto} {ah : AH} {f : EF} {fs : Option (List (Str × D))} (h : RX (okS τ) ah f fs) : RX (okS (HV.rst σ τ)) ah f fs := RX.mono (fun m h => ⟨h.1, rst_none h.2⟩) Sta.refl h
theorem GrowS.rst {σ τ : Sto} {ah ah' : AH} (g : GrowS σ ah τ ah') : GrowS σ ah (rst σ τ) ah' := ⟨g.len, g.same, fun n hn e => rst_none (g.dom n hn e)⟩
def qFnD (n ar : Nat) (pb : VQ) : List U → ExS → (U → MP) → MP := fun us X k σ => qFn n ar pb us (fun a f τ => X a f (rst σ τ)) (fun u τ => k u (rst σ τ)) σ
theorem sf_lf {c : Nat} {m : List D → AH → Res D} {p : List U → ExK → (U → Prop) → Prop} (h : LF K c m p) : SF K c m (zO1 p) := so_1 h
def zCal (pa : VZ (List U)) (f : List U → ExS → (U → MP) → MP) : VZ U := z1 pa f
structure SF2 (K : Dks) (c : Nat) (m : List D → List D → AH → Res D) (p : List U → List U → ExS → (U → MP) → MP) : Prop where
  to : ∀ {σ : Sto} {ah : AH} {N : Nat} {X : ExS} {k : U → MP} {us ws : List U} {ds fs : List D}, Rs (okS σ) ah us ds → Rs (okS σ) ah ws fs → StoR σ ah → K.at' N ah → N + cb c ≤ LIM → p us ws X k σ → PRS K σ ah (N + cb c) RU X k (m ds fs ah)
def zCal2 (pa pb : VZ (List U)) (f : List U → List U → ExS → (U → MP) → MP) : VZ U := z2 pa pb f
def zMkI (C : Str) (p : List U → ExS → (U → MP) → MP) : List U → ExS → (U → MP) → MP := fun us X k σ => ∀ n, 3 ≤ n → σ n = none → p (.ref n :: us) X (fun r τ => r = .non ∧ k (.ref n) τ) (updS σ n (.ins C [] []))
def qRaise (x f : Str) (pa : VZ (List U)) : VQ := fun Γ S => pa Γ (fun a g => S.ex a g Γ) fun us σ => us.length = 1 ∧ S.ex x (some ([f], us)) Γ σ
structure QHnd where
  c : Str
  i : Option Nat
  p : Str → Bool → VQ
def qSui (i : Option Nat) (p : VQ) (f : EF) : VQ := fun Γ S => match i with
  | none => p Γ ⟨S.nx, S.rt, S.bk, S.ct, fun _ _ _ _ => False⟩
  | some i => p (Γ.set i (some (xvU f))) ⟨fun Γ' => S.nx (Γ'.set i none), S.rt, fun Γ' => S.bk (Γ'.set i none), fun Γ' => S.ct (Γ'.set i none), fun _ _ _ _ => False⟩
def qHnd (t : STab) : List QHnd → Str → EF → VQ
  | [], c, f => fun Γ S => S.ex c f Γ
  | h :: r, c, f => fun Γ S σ => match sLook t c h.c with
    | some true => qSui h.i (h.p c (Option.isSome f)) f Γ S σ
    | some false => qHnd t r c f Γ S σ
    | none => False
def qTry (t : STab) (p : VQ) (l : List QHnd) : VQ := fun Γ S => p Γ ⟨S.nx, S.rt, S.bk, S.ct, fun c f Γ' => qHnd t l c f Γ' S⟩
def SSui (K : Dks) (c0 : Nat) (i : Option Nat) (m : SuiM) (p : Str → Bool → VQ) : Prop :=
  ∀ (c : Str) (od : Option Addr), (∀ x, od = some x → x = 0) → SS K c0 (m 0 od c) (p c od.isSome)
inductive SHs (K : Dks) (c0 : Nat) : List Hnd → List QHnd → Prop
  | nil : SHs K c0 [] []
  | one {C : Str} {i : Option Nat} {m : SuiM} {p : Str → Bool → VQ} {l : List Hnd} {v : List QHnd} (h : SSui K c0 i m p) (r : SHs K c0 l v) : SHs K c0 (⟨C, i, m⟩ :: l) (⟨C, i, p⟩ :: v)
def TrueZ : SZ := ⟨fun _ _ => False, fun u _ => u = .bl true, fun _ _ => False, fun _ _ => False, fun _ _ _ _ => False⟩
def sto0 : Sto := fun _ => none
theorem law_Z {c n : Nat} {rest : SM} {pr : VQ} {md : List D → AH → Res D} {ns : List Int} {ah1 : AH} (hd : md [.ref 0] (ah0 ns) = .ok (.ref 2) ah1) (hk : K.at' 0 ah1) (h : SS K c rest pr) (hc : Nat.ble c 4900 = true) (x : pr (none :: some (.ref 2) :: List.replicate n none) TrueZ sto0) :
    ∃ ah', fnR (n + 2) 1 (sSeq (sAsg (e1 (aCons (eVar 0) aNil) md) (gSet 1)) rest) [.ref 0] (ah0 ns) = .ok (.bl true) ah' := by
  have st : EnvR (okS sto0) ah1 (none :: some (.ref 2) :: List.replicate n none) (some (.ref 0) :: some (.ref 2) :: List.replicate n none) := by
    refine ⟨by simp, fun i u e => ?_⟩
    match i with
    | 0 => simp at e
    | 1 =>
      simp only [List.getElem?_cons_succ, List.getElem?_cons_zero, Option.some.injEq] at e
      subst e
      exact ⟨.ref 2, rfl, by simp only [R]⟩
    | i + 2 =>
      simp only [List.getElem?_cons_succ, List.getElem?_replicate] at e
      split at e
      · cases e
      · cases e
  have w := h.to st ⟨fun n c e => by cases e⟩ hk (by
    rw [Nat.zero_add]
    have h1 := Nat.le_of_ble_eq_true hc
    unfold cb LIM
    split
    · exact Nat.zero_le _
    · exact Nat.pow_le_pow_right (by decide) (by omega)) x
  unfold fnR
  simp only [List.length_singleton, if_true, List.map_cons, List.map_nil, List.singleton_append]
  have e0 : (n + 2 - 1) = n + 1 := by omega
  rw [e0, List.replicate_succ]
  simp only [sSeq_def, sAsg_set, e1_def, aCons_def, eVar_zero, Res.bind_ok, aNil_def, hd, thenS_ok, List.set_cons_succ, List.set_cons_zero, next_nx]
  cases z : rest (some (.ref 0) :: some (.ref 2) :: List.replicate n none) ah1 with
  | rt d ah2 =>
    rw [z] at w
    obtain ⟨u, σ', h1, h2, _⟩ := w
    have : u = .bl true := h1
    subst this
    simp only [R] at h2
    subst h2
    exact ⟨ah2, rfl⟩
  | nx e a => rw [z] at w; obtain ⟨_, _, h1, _⟩ := w; exact h1.elim
  | bk e a => rw [z] at w; obtain ⟨_, _, h1, _⟩ := w; exact h1.elim
  | ct e a => rw [z] at w; obtain ⟨_, _, h1, _⟩ := w; exact h1.elim
  | exn c f e a => rw [z] at w; obtain ⟨_, _, _, h1, _⟩ := w; exact h1.elim
  | stuck => rw [z] at w; exact w.elim
end
end HV
namespace HV
open PySem PySem.Spec PyProof.Rows L2 HA
def calZ (p : List U → ExS → (U → MP) → MP) (us : List U) (X : ExS) (k : U → MP) (_ : Dm (X, k)) : MP := p us X k
def forZ (vt : VTM) (body : VQ) (us : List U) (Γ : UEnv) (S : SZ) (_ : Dm (body, S)) : MP := qForL vt body us Γ S
def lcZ (vt : VTM) (pt : VZ Bool) (pe : VZ U) (Γ : UEnv) (us : List U) (k : List U → MP) (_ : Dm (pt, pe, k)) : MP := zLcL vt pt pe Γ us k
def nxZ (f : UEnv → MP) (Γ : UEnv) (σ : Sto) (_ : Dm f) : Prop := f Γ σ
def aN (σ : Sto) (k : Nat → Prop) (_ : Dm k) : Prop := ∀ n, 3 ≤ n → σ n = none → k n
def oLs (o : Option U) (k : List U → Prop) (_ : Dm k) : Prop := match o with
  | some (.lst us) => k us
  | _ => False
def oIn (o : Option U) (k : Str → List Str → List U → Prop) (_ : Dm k) : Prop := match o with
  | some (.ins C fs us) => k C fs us
  | _ => False
def oSt (o : Option U) (k : U → Prop) (_ : Dm k) : Prop := match o with
  | some c => k c
  | none => False
@[simp] theorem nxZ_def (f : UEnv → MP) (Γ : UEnv) (σ : Sto) (d : Dm f) : nxZ f Γ σ d = f Γ σ := nrfl rfl
@[simp] theorem oLs_some (us : List U) (k : List U → Prop) (d : Dm k) : oLs (some (.lst us)) k d = k us := nrfl rfl
@[simp] theorem oIn_some (C : Str) (fs : List Str) (us : List U) (k : Str → List Str → List U → Prop) (d : Dm k) : oIn (some (.ins C fs us)) k d = k C fs us := nrfl rfl
@[simp] theorem oSt_some (c : U) (k : U → Prop) (d : Dm k) : oSt (some c) k d = k c := nrfl rfl
theorem aN_i {σ : Sto} {k : Nat → Prop} {d : Dm k} (h : ∀ n, 3 ≤ n → σ n = none → k n) : aN σ k d := h
@[simp] theorem updS_same' (σ : Sto) (n : Nat) (c : U) : updS σ n c n = some c := updS_same
@[simp] theorem updS_ne' (σ : Sto) (n m : Nat) (c : U) (h : m ≠ n) : updS σ n c m = σ m := updS_ne h
@[simp] theorem updS_twice (σ : Sto) (n : Nat) (c d : U) : updS (updS σ n c) n d = updS σ n d := by
  funext m; unfold updS; split <;> rfl
theorem updS_self {σ : Sto} {n : Nat} {c : U} (h : σ n = some c) : updS σ n c = σ := by
  funext m; unfold updS; split
  · rename_i e; subst e; exact h.symm
  · rfl
@[simp] theorem rst_self (σ : Sto) : rst σ σ = σ := by
  funext m; unfold rst
  cases e : σ m <;> simp [e]
theorem rst_new {σ τ : Sto} {n : Nat} {c : U} (h : σ n = none) : rst σ (updS τ n c) = rst σ τ := by
  funext m; unfold rst updS
  by_cases e : m = n
  · subst e; simp [h]
  · simp [e]
theorem iteM {c : Prop} [Decidable c] (a b : MP) (σ : Sto) : (if c then a else b) σ = if c then a σ else b σ := by split <;> rfl
section
variable {α β γ α' γ' : Type} (Γ : UEnv) (X : ExS) (σ : Sto)
@[simp ↓] theorem zE_def (p : VE α) (k : α → MP) : zE p Γ X k σ = p Γ (fun c f => X c f σ) (fun a => k a σ) := nrfl rfl
@[simp ↓] theorem zO1_def (p : α → ExK → (γ → Prop) → Prop) (a : α) (k : γ → MP) : zO1 p a X k σ = p a (fun c f => X c f σ) (fun a => k a σ) := nrfl rfl
@[simp ↓] theorem zO2_def (p : α → α' → ExK → (γ → Prop) → Prop) (a : α) (b : α') (k : γ → MP) : zO2 p a b X k σ = p a b (fun c f => X c f σ) (fun a => k a σ) := nrfl rfl
@[simp ↓] theorem zO3_def (p : α → α' → γ' → ExK → (γ → Prop) → Prop) (a : α) (b : α') (c : γ') (k : γ → MP) : zO3 p a b c X k σ = p a b c (fun c f => X c f σ) (fun a => k a σ) := nrfl rfl
@[simp ↓] theorem z1_def (pa : VZ α) (f : α → ExS → (γ → MP) → MP) (k : γ → MP) : z1 pa f Γ X k = pa Γ X fun a => f a X k := nrfl rfl
@[simp ↓] theorem z2_def (pa : VZ α) (pb : VZ α') (f : α → α' → ExS → (γ → MP) → MP) (k : γ → MP) : z2 pa pb f Γ X k = pa Γ X fun a => pb Γ X fun b => f a b X k := nrfl rfl
@[simp ↓] theorem z3_def (pa : VZ α) (pb : VZ α') (pc : VZ γ') (f : α → α' → γ' → ExS → (γ → MP) → MP) (k : γ → MP) : z3 pa pb pc f Γ X k = pa Γ X fun a => pb Γ X fun b => pc Γ X fun c => f a b c X k := nrfl rfl
@[simp ↓] theorem zaNil_def (k : List U → MP) : zaNil Γ X k = k [] := nrfl rfl
@[simp ↓] theorem zaCons_def (p : VZ U) (r : VZ (List U)) (k : List U → MP) : zaCons p r Γ X k = p Γ X fun u => r Γ X fun us => k (u :: us) := nrfl rfl
@[simp ↓] theorem zTup_def (p : VZ (List U)) (k : U → MP) : zTup p Γ X k = p Γ X fun us σ => us.length ≤ line ∧ k (.tup us) σ := nrfl rfl
@[simp ↓] theorem zLst_def (p : VZ (List U)) (k : List U → MP) : zLst p Γ X k = p Γ X fun us σ => us.length ≤ line ∧ k us σ := nrfl rfl
@[simp ↓] theorem zNew_def (p : VZ (List U)) (k : U → MP) : zNew p Γ X k = p Γ X fun us => k (.lst us) := nrfl rfl
@[simp ↓] theorem zNewS_def (p : VZ (List U)) (k : U → MP) : zNewS p Γ X k = p Γ X fun us σ => aN σ (fun n => k (.ref n) (updS σ n (.lst us))) () := nrfl rfl
@[simp ↓] theorem zB_def (p : VZ Bool) (k : U → MP) : zB p Γ X k = p Γ X fun b => k (.bl b) := nrfl rfl
@[simp ↓] theorem zAnd_def (a b : VZ Bool) (k : Bool → MP) : zAnd a b Γ X k = a Γ X fun t σ => if t = true then b Γ X k σ else k false σ := by
  unfold zAnd; congr 1; funext t σ; rw [iteM]
@[simp ↓] theorem zOr_def (a b : VZ Bool) (k : Bool → MP) : zOr a b Γ X k = a Γ X fun t σ => if t = true then k true σ else b Γ X k σ := by
  unfold zOr; congr 1; funext t σ; rw [iteM]
@[simp ↓] theorem zNot_def (a : VZ Bool) (k : Bool → MP) : zNot a Γ X k = a Γ X fun t => k (!t) := nrfl rfl
@[simp ↓] theorem zTruth_def (u : U) (k : Bool → MP) : zTruth u X k σ = vTruth u (fun c f => X c f σ) (fun a => k a σ) := nrfl rfl
@[simp ↓] theorem zEAnd_def (a b : VZ U) (k : U → MP) : zEAnd a b Γ X k = a Γ X fun u => zTruth u X fun t σ => if t = true then b Γ X k σ else k u σ := by
  unfold zEAnd; congr 1; funext u; congr 1; funext t σ; rw [iteM]
@[simp ↓] theorem zEOr_def (a b : VZ U) (k : U → MP) : zEOr a b Γ X k = a Γ X fun u => zTruth u X fun t σ => if t = true then k u σ else b Γ X k σ := by
  unfold zEOr; congr 1; funext u; congr 1; funext t σ; rw [iteM]
@[simp ↓] theorem zENot_def (a : VZ U) (k : U → MP) : zENot a Γ X k = a Γ X fun u => zTruth u X fun t => k (.bl (!t)) := nrfl rfl
@[simp ↓] theorem zIf_def (c : VZ Bool) (a b : VZ α) (k : α → MP) : zIf c a b Γ X k = c Γ X fun t σ => if t = true then a Γ X k σ else b Γ X k σ := by
  unfold zIf; congr 1; funext t σ; rw [iteM]
@[simp ↓] theorem zChain_def (a b c : VZ U) (f g : Z2o Bool) (k : Bool → MP) : zChain a b c f g Γ X k = a Γ X fun x => b Γ X fun y => f x y X fun t σ => if t = true then c Γ X (fun z => g y z X k) σ else k false σ := by
  unfold zChain; congr 1; funext x; congr 1; funext y; congr 1; funext t σ; rw [iteM]
@[simp ↓] theorem zCal_def (pa : VZ (List U)) (f : List U → ExS → (U → MP) → MP) (k : U → MP) : zCal pa f Γ X k = pa Γ X fun a => calZ f a X k () := nrfl rfl
@[simp ↓] theorem zCal2_def (pa pb : VZ (List U)) (f : List U → List U → ExS → (U → MP) → MP) (k : U → MP) : zCal2 pa pb f Γ X k = pa Γ X fun us => pb Γ X fun ws => f us ws X k := nrfl rfl
@[simp ↓] theorem calZ_zO1 (p : List U → ExK → (U → Prop) → Prop) (us : List U) (k : U → MP) (d : Dm (X, k)) : calZ (zO1 p) us X k d σ = cal p us (fun c f => X c f σ) (fun u => k u σ) () := nrfl rfl
@[simp ↓] theorem zLc_def (pi : VZ (List U)) (vt : VTM) (pt : VZ Bool) (pe : VZ U) (vs : List Nat) (k : List U → MP) : zLc pi vt pt pe vs Γ X k = pi Γ X fun us σ => us.length ≤ line ∧ lcZ vt pt pe (wipeU Γ vs) us k () σ := nrfl rfl
@[simp ↓] theorem zIx_ref (n : Nat) (i : Int) (k : U → MP) : zIx (.ref n) (.int i) X k σ = oLs (σ n) (fun us => oK (ixD us i) (fun u => k u σ) ()) () := by
  show lstS σ n (fun us => match ixD us i with
    | some u => k u σ
    | none => False) = _
  unfold lstS oLs oK
  generalize σ n = o
  rcases o with _ | u
  · rfl
  · cases u <;> first | rfl | (simp only; generalize ixD _ i = z; cases z <;> rfl)
@[simp ↓] theorem zIx_tup (us : List U) (i : U) (k : U → MP) : zIx (.tup us) i X k σ = vIx (.tup us) i (fun c f => X c f σ) (fun u => k u σ) := nrfl rfl
@[simp ↓] theorem zIx_lst (us : List U) (i : U) (k : U → MP) : zIx (.lst us) i X k σ = vIx (.lst us) i (fun c f => X c f σ) (fun u => k u σ) := nrfl rfl
@[simp ↓] theorem zListOf_ref (n : Nat) (k : List U → MP) : zListOf (.ref n) X k σ = oLs (σ n) (fun us => k us σ) () := nrfl rfl
@[simp ↓] theorem zListOf_lst (us : List U) (k : List U → MP) : zListOf (.lst us) X k σ = k us σ := nrfl rfl
@[simp ↓] theorem zSeqOf_ref (n : Nat) (k : List U → MP) : zSeqOf (.ref n) X k σ = oLs (σ n) (fun us => k us σ) () := nrfl rfl
@[simp ↓] theorem zSeqOf_lst (us : List U) (k : List U → MP) : zSeqOf (.lst us) X k σ = k us σ := nrfl rfl
@[simp ↓] theorem zSeqOf_tup (us : List U) (k : List U → MP) : zSeqOf (.tup us) X k σ = k us σ := nrfl rfl
@[simp ↓] theorem zLenA_ref (n : Nat) (k : U → MP) : zLenA [.ref n] X k σ = oLs (σ n) (fun us => k (.int us.length) σ) () := nrfl rfl
@[simp ↓] theorem zFld_ref (Cs : List (Str × List Str)) (f : Str) (n : Nat) (k : U → MP) : zFld Cs f (.ref n) X k σ = oIn (σ n) (fun C fs us => (match Cs.lookup C with
    | some l => f ∈ l
    | none => False) ∧ oK ((fs.zip us).lookup f) (fun u => k u σ) ()) () := by
  show insS σ n (fun C fs us => (match Cs.lookup C with
    | some l => f ∈ l
    | none => False) ∧ match (fs.zip us).lookup f with
    | some u => k u σ
    | none => False) = _
  unfold insS oIn oK
  generalize σ n = o
  rcases o with _ | u
  · rfl
  · cases u <;> first | rfl | (simp only; congr 1; generalize List.lookup f _ = z; cases z <;> rfl)
@[simp ↓] theorem zFld_ins (Cs : List (Str × List Str)) (f C : Str) (fs : List Str) (us : List U) (k : U → MP) : zFld Cs f (.ins C fs us) X k σ = vFldC Cs f (.ins C fs us) (fun c f => X c f σ) (fun u => k u σ) := nrfl rfl
@[simp ↓] theorem zMkI_def (C : Str) (p : List U → ExS → (U → MP) → MP) (us : List U) (k : U → MP) : zMkI C p us X k σ = aN σ (fun n => calZ p (.ref n :: us) X (fun r τ => r = .non ∧ k (.ref n) τ) () (updS σ n (.ins C [] []))) () := nrfl rfl
@[simp ↓] theorem zMt_def (po : VZ U) (pa : VZ (List U)) (vf : VMt) (k : U → MP) : zMt po pa vf Γ X k = po Γ X fun o σ => match o with
  | .ref n => lstS σ n fun _ => pa Γ X (fun us σ1 => oSt (σ1 n) (fun c => vf c us fun r c' => k r (updS σ1 n c')) ()) σ
  | _ => False := nrfl rfl
@[simp] theorem lstS_def (n : Nat) (k : List U → Prop) : lstS σ n k = oLs (σ n) k () := nrfl rfl
@[simp ↓] theorem qFn_def (n ar : Nat) (pb : VQ) (us : List U) (k : U → MP) : qFn n ar pb us X k σ = (us.length = ar ∧ pb (us.map some ++ List.replicate (n - us.length) none) ⟨fun _ => k .non, k, fun _ _ => False, fun _ _ => False, fun a f _ => X a f⟩ σ) := nrfl rfl
@[simp ↓] theorem qFnD_def (n ar : Nat) (pb : VQ) (us : List U) (k : U → MP) : qFnD n ar pb us X k σ = (us.length = ar ∧ pb (us.map some ++ List.replicate (n - us.length) none) ⟨fun _ τ => k .non (rst σ τ), fun u τ => k u (rst σ τ), fun _ _ => False, fun _ _ => False, fun a f _ τ => X a f (rst σ τ)⟩ σ) := nrfl rfl
variable (nx : UEnv → MP) (rt : U → MP) (bk ct : UEnv → MP) (ex : Str → EF → UEnv → MP)
@[simp ↓] theorem qSkip_def : qSkip Γ ⟨nx, rt, bk, ct, ex⟩ = nx Γ := nrfl rfl
@[simp ↓] theorem qSeq_def (a b : VQ) : qSeq a b Γ ⟨nx, rt, bk, ct, ex⟩ = a Γ ⟨fun Γ' => b Γ' ⟨nx, rt, bk, ct, ex⟩, rt, bk, ct, ex⟩ := nrfl rfl
@[simp ↓] theorem qRet_def (p : VZ U) : qRet p Γ ⟨nx, rt, bk, ct, ex⟩ = p Γ (fun a f => ex a f Γ) rt := nrfl rfl
@[simp ↓] theorem qRetN_def : qRetN Γ ⟨nx, rt, bk, ct, ex⟩ = rt .non := nrfl rfl
@[simp ↓] theorem qExpr_def (p : VZ U) : qExpr p Γ ⟨nx, rt, bk, ct, ex⟩ = p Γ (fun a f => ex a f Γ) fun _ => nx Γ := nrfl rfl
@[simp ↓] theorem qAsg_def (p : VZ U) (t : VTM) : qAsg p t Γ ⟨nx, rt, bk, ct, ex⟩ = p Γ (fun a f => ex a f Γ) fun u σ => oK (t u) (fun bs => nxZ nx (setU Γ bs) σ ()) () := by
  unfold qAsg
  congr 1; funext u σ; cases t u <;> rfl
@[simp ↓] theorem qIf_def (c : VZ Bool) (a b : VQ) : qIf c a b Γ ⟨nx, rt, bk, ct, ex⟩ = c Γ (fun a f => ex a f Γ) fun t σ => if t = true then a Γ ⟨nx, rt, bk, ct, ex⟩ σ else b Γ ⟨nx, rt, bk, ct, ex⟩ σ := by
  unfold qIf; congr 1; funext t σ; rw [iteM]
@[simp ↓] theorem qBk_def : qBk Γ ⟨nx, rt, bk, ct, ex⟩ = bk Γ := nrfl rfl
@[simp ↓] theorem qCt_def : qCt Γ ⟨nx, rt, bk, ct, ex⟩ = ct Γ := nrfl rfl
@[simp ↓] theorem qFor_def (pi : VZ (List U)) (vt : VTM) (body : VQ) : qFor pi vt body Γ ⟨nx, rt, bk, ct, ex⟩ = pi Γ (fun a f => ex a f Γ) fun us => forZ vt body us Γ ⟨nx, rt, bk, ct, ex⟩ () := nrfl rfl
@[simp ↓] theorem qForB_def (pi : VZ (List U)) (vt : VTM) (body : VQ) : qForB pi vt body Γ ⟨nx, rt, bk, ct, ex⟩ = pi Γ (fun a f => ex a f Γ) fun us σ => us.length ≤ line ∧ forZ vt body us Γ ⟨nx, rt, bk, ct, ex⟩ () σ := nrfl rfl
@[simp ↓] theorem qPar2_def (i j : Nat) (p : VZ (List U)) : qPar2 i j p Γ ⟨nx, rt, bk, ct, ex⟩ = p Γ (fun a f => ex a f Γ) fun us σ => o2 us (fun x y => nxZ nx ((Γ.set i (some x)).set j (some y)) σ ()) () := nrfl rfl
@[simp ↓] theorem qSetL_def (pi po pv : VZ U) : qSetL pi po pv Γ ⟨nx, rt, bk, ct, ex⟩ = pv Γ (fun a f => ex a f Γ) fun v => po Γ (fun a f => ex a f Γ) fun o => pi Γ (fun a f => ex a f Γ) fun kd σ => match o with
  | .ref n => oI kd (fun q => oLs (σ n) (fun xs => oK (ixN xs.length q) (fun j => nxZ nx Γ (updS σ n (.lst (xs.set j v))) ()) ()) ()) ()
  | _ => False := by
  unfold qSetL
  congr 1; funext v; congr 1; funext o; congr 1; funext kd σ
  cases o <;> try rfl
  rename_i n
  cases kd <;> try rfl
  rename_i i
  show lstS σ n (fun xs => match ixN xs.length i with
    | some j => nx Γ (updS σ n (.lst (xs.set j v)))
    | none => False) = oLs (σ n) (fun xs => oK (ixN xs.length i) (fun j => nxZ nx Γ (updS σ n (.lst (xs.set j v))) ()) ()) ()
  unfold lstS oLs oK
  generalize σ n = z
  rcases z with _ | u
  · rfl
  · cases u <;> first | rfl | (simp only; generalize ixN _ i = z; cases z <;> rfl)
@[simp ↓] theorem qFld_def (Cs : List (Str × List Str)) (f : Str) (po pv : VZ U) : qFld Cs f po pv Γ ⟨nx, rt, bk, ct, ex⟩ = pv Γ (fun a g => ex a g Γ) fun v => po Γ (fun a g => ex a g Γ) fun o σ => match o with
  | .ref n => oIn (σ n) (fun C fs us => (hasF Cs C f = true ∧ fs.length < 1000) ∧ nxZ nx Γ (updS σ n (.ins C (putK f fs) (putV f v fs us))) ()) ()
  | _ => False := nrfl rfl
@[simp ↓] theorem qRaise_def (x f : Str) (pa : VZ (List U)) : qRaise x f pa Γ ⟨nx, rt, bk, ct, ex⟩ = pa Γ (fun a g => ex a g Γ) fun us σ => us.length = 1 ∧ ex x (some ([f], us)) Γ σ := nrfl rfl
@[simp ↓] theorem qTry_def (t : STab) (p : VQ) (l : List QHnd) : qTry t p l Γ ⟨nx, rt, bk, ct, ex⟩ = p Γ ⟨nx, rt, bk, ct, fun c f Γ' => qHnd t l c f Γ' ⟨nx, rt, bk, ct, ex⟩⟩ := nrfl rfl
end
theorem qForL_inv {vt : VTM} {body : VQ} {S : SZ} (I : Nat → UEnv → MP) (B : UEnv → MP) : ∀ (us : List U) (j : Nat) (Γ : UEnv) (σ : Sto), I j Γ σ →
    (∀ (i : Nat) (u : U) (Γ : UEnv) (σ : Sto) (nx bk : UEnv → MP), us[i]? = some u → I (j + i) Γ σ → (∀ Γ' σ', I (j + i + 1) Γ' σ' → nx Γ' σ') → (∀ Γ' σ', B Γ' σ' → bk Γ' σ') → ∃ bs, vt u = some bs ∧ body (setU Γ bs) ⟨nx, S.rt, bk, nx, S.ex⟩ σ) →
    (∀ Γ' σ', I (j + us.length) Γ' σ' → S.nx Γ' σ') → (∀ Γ' σ', B Γ' σ' → S.nx Γ' σ') → qForL vt body us Γ S σ
  | [], j, Γ, σ, h0, _, hn, _ => hn Γ σ h0
  | u :: us, j, Γ, σ, h0, hs, hn, hB => by
    obtain ⟨bs, h1, h2⟩ := hs 0 u Γ σ (fun Γ' => qForL vt body us Γ' S) S.nx rfl h0 (fun Γ' σ' hi => by
      refine qForL_inv I B us (j + 1) Γ' σ' hi (fun i v Γ σ nx bk hv hI hnx hbk => ?_) (fun Γ' σ' hI => hn Γ' σ' ?_) hB
      · exact hs (i + 1) v Γ σ nx bk hv (by rw [show j + (i + 1) = j + 1 + i by omega]; exact hI) (fun Γ' σ' hI => hnx Γ' σ' (by rw [show j + 1 + i + 1 = j + (i + 1) + 1 by omega]; exact hI)) hbk
      · rw [List.length_cons, show j + (us.length + 1) = j + 1 + us.length by omega]; exact hI) hB
    unfold qForL
    rw [h1]
    exact h2
theorem forZ_go {vt : VTM} {body : VQ} {nx0 : UEnv → MP} {rt : U → MP} {bk0 ct0 : UEnv → MP} {ex : Str → EF → UEnv → MP} {Γ : UEnv} {σ : Sto} {us : List U} {d : Dm (body, (⟨nx0, rt, bk0, ct0, ex⟩ : SZ))} (I : Nat → UEnv → MP) (h0 : I 0 Γ σ) (hs : ∀ (i : Nat) (u : U) (Γ : UEnv) (σ : Sto) (nx bk : UEnv → MP), us[i]? = some u → I i Γ σ → (∀ Γ' σ', I (i + 1) Γ' σ' → nx Γ' σ') → ∃ bs, vt u = some bs ∧ body (setU Γ bs) ⟨nx, rt, bk, nx, ex⟩ σ)
    (hn : ∀ Γ' σ', I us.length Γ' σ' → nx0 Γ' σ') : forZ vt body us Γ ⟨nx0, rt, bk0, ct0, ex⟩ d σ :=
  qForL_inv I (fun _ _ => False) us 0 Γ σ h0 (fun i u Γ σ nx bk h1 h2 h3 _ => hs i u Γ σ nx bk h1 (by simpa using h2) (by simpa using h3)) (by simpa using hn) (fun _ _ h => h.elim)
theorem forZ_goM {α : Type} {vt : VTM} {body : VQ} {nx0 : UEnv → MP} {rt : U → MP} {bk0 ct0 : UEnv → MP} {ex : Str → EF → UEnv → MP} {Γ : UEnv} {σ : Sto} (g : α → U) {xs : List α} {d : Dm (body, (⟨nx0, rt, bk0, ct0, ex⟩ : SZ))} (I : Nat → UEnv → MP) (h0 : I 0 Γ σ) (hs : ∀ (i : Nat) (x : α) (Γ : UEnv) (σ : Sto) (nx bk : UEnv → MP), xs[i]? = some x → I i Γ σ → (∀ Γ' σ', I (i + 1) Γ' σ' → nx Γ' σ') → ∃ bs, vt (g x) = some bs ∧ body (setU Γ bs) ⟨nx, rt, bk, nx, ex⟩ σ)
    (hn : ∀ Γ' σ', I xs.length Γ' σ' → nx0 Γ' σ') : forZ vt body (xs.map g) Γ ⟨nx0, rt, bk0, ct0, ex⟩ d σ :=
  forZ_go I h0 (fun i u Γ σ nx bk h1 h2 h3 => by
    rw [List.getElem?_map] at h1
    cases hx : xs[i]? with
    | none => rw [hx] at h1; cases h1
    | some x => rw [hx] at h1; cases h1; exact hs i x Γ σ nx bk hx h2 h3) (by simpa using hn)
theorem lcZ_nil (vt : VTM) (pt : VZ Bool) (pe : VZ U) (Γ : UEnv) (k : List U → MP) (d : Dm (pt, pe, k)) (σ : Sto) : lcZ vt pt pe Γ [] k d σ = k [] σ := nrfl rfl
end HV
namespace HV
open PySem PySem.Spec PyProof.Rows L2 HA
section
variable (X : ExK) (k : U → Prop)
@[simp ↓] theorem vJ_str (a y : Str) : vJ (.str a) (.str y) X k = ((y.length ≤ line ∧ (a ++ y).length ≤ line) ∧ k (.str (a ++ y))) := nrfl rfl
@[simp ↓] theorem vJ_int (a : Str) (i : Int) : vJ (.str a) (.int i) X k = ((i.natAbs.log2 < 1920 ∧ (a ++ (toString i : Str)).length ≤ line) ∧ k (.str (a ++ (toString i : Str)))) := nrfl rfl
end
end HV
namespace HV
open PySem PySem.Spec PyProof.Rows L2 HA
section
variable {K : Dks}
abbrev ZTab := List (Str × (List U → ExS → (U → MP) → MP))
inductive TabS (K : Dks) (c : Nat) : MTab → ZTab → Prop
  | nil : TabS K c [] []
  | cons {f : Str} {m : List D → AH → Res D} {p : List U → ExS → (U → MP) → MP} {t : MTab} {v : ZTab} (h : SF K c m p) (r : TabS K c t v) : TabS K c ((f, m) :: t) ((f, p) :: v)
theorem TabS.look {c : Nat} {f : Str} {p : List U → ExS → (U → MP) → MP} : ∀ {t : MTab} {v : ZTab}, TabS K c t v → v.lookup f = some p → ∃ m, t.lookup f = some m ∧ SF K c m p
  | _, _, .nil, h => by simp at h
  | _, _, .cons (f := g) h0 r, h => by
    rw [List.lookup_cons] at h ⊢
    split at h
    · cases h; exact ⟨_, by simp [*], h0⟩
    · obtain ⟨m, e, z⟩ := r.look h
      exact ⟨m, by simp [*], z⟩
def zMeth (m : Str) (v : ZTab) (g : List U → List U → List U) (po : VZ U) (pa pb : VZ (List U)) : VZ U := fun Γ X k => po Γ X fun u σ => match u with
  | .ref n => insS σ n fun C fs us => (fs.zip us).lookup m = none ∧ match v.lookup C with
    | some p => pa Γ X (fun as => pb Γ X fun ws => p (g (.ref n :: as) ws) X k) σ
    | none => False
  | _ => False
def zCatS (pa : VZ U) (pt : VZ (List U)) : VZ (List U) := fun Γ X k => pa Γ X fun u => match u with
  | .ref n => pt Γ X fun ys σ => lstS σ n fun xs => xs.length + ys.length ≤ line ∧ k (xs ++ ys) σ
  | _ => fun _ => False
end
section
variable (Γ : UEnv) (X : ExK) (k : U → Prop) (kl : List U → Prop)
@[simp ↓] theorem vZipX_tup (x : Str) (us : List U) : vZipX (.str x) (.tup us) X kl = kl (zipU (charsU x) us) := nrfl rfl
@[simp ↓] theorem vZipX_lst (x : Str) (us : List U) : vZipX (.str x) (.lst us) X kl = kl (zipU (charsU x) us) := nrfl rfl
@[simp ↓] theorem vIR3_def (i j c : Int) : vIR3 (.int i) (.int j) (.int c) X kl = (rgOk i j c = true ∧ kl ((rgL i j c).map U.int)) := nrfl rfl
def mtK (m : Str) (v : VTab) (u : U) (f : (List U → ExK → (U → Prop) → Prop) → Prop) (_ : Dm f) : Prop := match u with
  | .ins C fs us => (fs.zip us).lookup m = none ∧ match v.lookup C with
    | some p => f p
    | none => False
  | _ => False
@[simp ↓] theorem vMeth_def (m : Str) (v : VTab) (g : List U → List U → List U) (po : VE U) (pa pb : VE (List U)) : vMeth m v g po pa pb Γ X k = po Γ X fun u => mtK m v u (fun p => pa Γ X fun as => pb Γ X fun ws => cal p (g (u :: as) ws) X k ()) () := nrfl rfl
theorem mtK_ins (m : Str) (v : VTab) (C : Str) (fs : List Str) (us : List U) (f) (d) : mtK m v (.ins C fs us) f d = ((fs.zip us).lookup m = none ∧ oK (v.lookup C) f ()) := by
  unfold mtK oK
  simp only
  cases v.lookup C <;> rfl
end
section
variable (Γ : UEnv) (X : ExS) (k : U → MP) (kl : List U → MP) (σ : Sto)
def mtS (m : Str) (v : ZTab) (o : Option U) (f : (List U → ExS → (U → MP) → MP) → Prop) (_ : Dm f) : Prop := match o with
  | some (.ins C fs us) => (fs.zip us).lookup m = none ∧ match v.lookup C with
    | some p => f p
    | none => False
  | _ => False
@[simp ↓] theorem zMeth_def (m : Str) (v : ZTab) (g : List U → List U → List U) (po : VZ U) (pa pb : VZ (List U)) : zMeth m v g po pa pb Γ X k = po Γ X fun u σ => match u with
    | .ref n => mtS m v (σ n) (fun p => pa Γ X (fun as => pb Γ X fun ws => calZ p (g (.ref n :: as) ws) X k ()) σ) ()
    | _ => False := nrfl rfl
@[simp ↓] theorem zCatS_def (pa : VZ U) (pt : VZ (List U)) : zCatS pa pt Γ X kl = pa Γ X fun u => match u with
    | .ref n => pt Γ X fun ys σ => oLs (σ n) (fun xs => xs.length + ys.length ≤ line ∧ kl (xs ++ ys) σ) ()
    | _ => fun _ => False := nrfl rfl
end
end HV
namespace HV
open PySem PySem.Spec PyProof.Rows L2 HA
def vAddI (u v : U) (_ : ExK) (k : U → Prop) : Prop := match u, v with
  | .int i, .int j => k (.int (i + j))
  | _, _ => False
section
variable {K : Dks}
def qFin (p q : VQ) : VQ := fun Γ S => p Γ ⟨fun Γ1 => q Γ1 ⟨S.nx, S.rt, S.bk, S.ct, fun _ _ _ _ => False⟩, fun _ _ => False, fun _ _ => False, fun _ _ => False, fun c f Γ1 => q Γ1 ⟨fun Γ2 => S.ex c f Γ2, fun _ _ => False, fun _ _ => False, fun _ _ => False, fun _ _ _ _ => False⟩⟩
def qAug (po pi : VZ U) (j : Int) : VQ := fun Γ S => po Γ (fun a f => S.ex a f Γ) fun o => pi Γ (fun a f => S.ex a f Γ) fun kd σ => match o, kd with
  | .ref n, .int q => lstS σ n fun xs => match ixN xs.length q with
    | some i => match xs[i]? with
      | some (.int x) => S.nx Γ (updS σ n (.lst (xs.set i (.int (x + j)))))
      | _ => False
    | none => False
  | _, _ => False
def qUnl (pa : VZ U) (n : Nat) (t : List U → Option (List (Nat × U))) : VQ := fun Γ S => pa Γ (fun a f => S.ex a f Γ) fun o σ => match o with
  | .ref m => lstS σ m fun xs => xs.length = n ∧ match t xs with
    | some bs => S.nx (setU Γ bs) σ
    | none => False
  | _ => False
def zLCut (u : U) (lo hi : Option Int) (_ : ExS) (k : List U → MP) : MP := match u with
  | .ref n => fun σ => lstS σ n fun us => k (HA.cut us lo hi) σ
  | _ => fun _ => False
def zLenL (v : ZTab) : List U → ExS → (U → MP) → MP
  | [.ref n], _, k => fun σ => insS σ n fun C _ _ => match v.lookup C with
    | some p => p [.ref n] (fun _ _ _ => False) (fun r τ => ∃ i : Int, r = .int i ∧ (0 ≤ i ∧ i < 2 ^ 63) ∧ k (.int i) τ) σ
    | none => False
  | _, _, _ => fun _ => False
def zLenM (v : ZTab) (po : VZ U) : VZ U := z1 (zaCons po zaNil) (zLenL v)
end
section
variable (Γ : UEnv) (X : ExK) (k : U → Prop)
@[simp ↓] theorem vAddI_int (i j : Int) : vAddI (.int i) (.int j) X k = k (.int (i + j)) := nrfl rfl
end
section
variable (Γ : UEnv) (X : ExS) (k : U → MP) (kl : List U → MP) (σ : Sto) (nx : UEnv → MP) (rt : U → MP) (bk ct : UEnv → MP) (ex : Str → EF → UEnv → MP)
@[simp ↓] theorem qFin_def (p q : VQ) : qFin p q Γ ⟨nx, rt, bk, ct, ex⟩ = p Γ ⟨fun Γ1 => q Γ1 ⟨nx, rt, bk, ct, fun _ _ _ _ => False⟩, fun _ _ => False, fun _ _ => False, fun _ _ => False, fun c f Γ1 => q Γ1 ⟨fun Γ2 => ex c f Γ2, fun _ _ => False, fun _ _ => False, fun _ _ => False, fun _ _ _ _ => False⟩⟩ := nrfl rfl
def lmS (v : ZTab) (n : Nat) (k : U → MP) (o : Option U) (_ : Dm k) : MP := fun σ => match o with
  | some (.ins C _ _) => match v.lookup C with
    | some p => calZ p [.ref n] (fun _ _ _ => False) (fun r τ => ∃ i : Int, r = .int i ∧ (0 ≤ i ∧ i < 2 ^ 63) ∧ k (.int i) τ) () σ
    | none => False
  | _ => False
@[simp ↓] theorem zLenM_def (v : ZTab) (po : VZ U) : zLenM v po Γ X k = po Γ X fun u σ => match u with
    | .ref n => lmS v n k (σ n) () σ
    | _ => False := by
  unfold zLenM z1 zaCons z2 zaNil
  congr 1
  funext u σ
  cases u <;> rfl
theorem lmS_some (v : ZTab) (n : Nat) (C : Str) (fs : List Str) (us : List U) (d) : lmS v n k (some (.ins C fs us)) d σ = oK (v.lookup C) (fun p => calZ p [.ref n] (fun _ _ _ => False) (fun r τ => ∃ i : Int, r = .int i ∧ (0 ≤ i ∧ i < 2 ^ 63) ∧ k (.int i) τ) () σ) () := by
  unfold lmS oK
  simp only
  cases v.lookup C <;> rfl
@[simp ↓] theorem zLCut_ref (n : Nat) (lo hi : Option Int) : zLCut (.ref n) lo hi X kl σ = oLs (σ n) (fun us => kl (HA.cut us lo hi) σ) () := by
  unfold zLCut lstS oLs
  rfl
end
end HV
namespace HV
open PySem PySem.Spec PyProof.Rows L2 HA
def dKs (l : List (String × U)) : List Key := l.map fun p => .inr (Str.ofString p.1)
def dVs (l : List (String × U)) : List U := l.map (·.2)
def dS (l : List (String × U)) : U := .dK (dKs l) (dVs l)
def dLk : List (String × U) → Str → Option U
  | [], _ => none
  | p :: l, w => if Str.ofString p.1 = w then some p.2 else dLk l w
section
variable (Γ : UEnv) (X : ExK) (k : U → Prop) (kb : Bool → Prop)
end
end HV
namespace HA
open PySem PySem.Spec PyProof.Rows L2
end HA
namespace HV
section
open PySem PySem.Spec PyProof.Rows L2 HA
end
open PySem PySem.Spec PyProof.Rows L2 HA
section
variable {K : Dks}
def vStuck : VS := fun _ _ => False
def qStuck : VQ := fun _ _ _ => False
def dctS (σ : Sto) (n : Nat) (k : List Key → List U → Prop) : Prop := match σ n with
  | some (.dK ks us) => k ks us
  | _ => False
theorem OR.dct {ok : Nat → Prop} {ah : AH} {ks : List Key} {us : List U} {o : AObj} (h : OR ok ah (.dK ks us) o) : ∃ kvs, o = .dK kvs ∧ kvs.map (·.1) = ks ∧ Rs ok ah us (kvs.map (·.2)) := by
  cases o with
  | dK kvs => obtain ⟨a, b⟩ := h; exact ⟨kvs, rfl, a, b⟩
  | _ => exact h.elim
theorem StoR.dct {σ : Sto} {ah : AH} (st : StoR σ ah) {n : Nat} {ks : List Key} {us : List U} (e : σ n = some (.dK ks us)) : ∃ kvs, ah[n]? = some (.dK kvs) ∧ kvs.map (·.1) = ks ∧ Rs (okS σ) ah us (kvs.map (·.2)) := by
  obtain ⟨_, o, e2, r⟩ := st.at' n _ e
  obtain ⟨kvs, rfl, a, b⟩ := r.dct
  exact ⟨kvs, e2, a, b⟩
def zGetS : Z2o U
  | .ref n, kd, _, k => fun σ => dctS σ n fun ks us => match uKey kd with
    | some kk => match uVal ks us kk with
      | some u => k u σ
      | none => False
    | none => False
  | _, _, _, _ => fun _ => False
def qPut (pi po pv : VZ U) : VQ := fun Γ S => pv Γ (fun a f => S.ex a f Γ) fun v => po Γ (fun a f => S.ex a f Γ) fun o => pi Γ (fun a f => S.ex a f Γ) fun kd σ => match o, uKey kd with
  | .ref n, some key => dctS σ n fun ks us => ks.length < line ∧ S.nx Γ (updS σ n (uPut ks us key v))
  | _, _ => False
def zPairs : List (VZ U × VZ U) → VZ (List (U × U))
  | [] => fun _ _ k => k []
  | (a, b) :: r => fun Γ X k => a Γ X fun x => b Γ X fun y => zPairs r Γ X fun ps => k ((x, y) :: ps)
instance : Inb RPr := ⟨fun h => ⟨Rs.inb _ _ h.1, Rs.inb _ _ h.2⟩⟩
def zDispS (l : List (VZ U × VZ U)) : VZ U := fun Γ X k => zPairs l Γ X fun ps σ => match optAll (fun p => (uKey p.1).map fun kk => (kk, p.2)) ps with
  | some kvs => kvs.length ≤ 15 ∧ ∀ n, 3 ≤ n → σ n = none → k (.ref n) (updS σ n (uDisp kvs [] []))
  | none => False
end
section
variable (Γ : UEnv) (X : ExS) (k : U → MP) (σ : Sto) (nx : UEnv → MP) (rt : U → MP) (bk ct : UEnv → MP) (ex : Str → EF → UEnv → MP)
def oDs (o : Option U) (k : List Key → List U → Prop) (_ : Dm k) : Prop := match o with
  | some (.dK ks us) => k ks us
  | _ => False
@[simp ↓] theorem zGetS_ref (n : Nat) (w : Str) : zGetS (.ref n) (.str w) X k σ = oDs (σ n) (fun ks us => oK (uVal ks us (.inr w)) (fun u => k u σ) ()) () := by
  unfold zGetS dctS oDs uKey
  simp only
  congr 1
  funext ks us
  cases uVal ks us (Sum.inr w : Key) <;> rfl
@[simp ↓] theorem qPut_def (pi po pv : VZ U) : qPut pi po pv Γ ⟨nx, rt, bk, ct, ex⟩ = pv Γ (fun a f => ex a f Γ) fun v => po Γ (fun a f => ex a f Γ) fun o => pi Γ (fun a f => ex a f Γ) fun kd σ => match o with
    | .ref n => oK (uKey kd) (fun key => oDs (σ n) (fun ks us => ks.length < line ∧ nx Γ (updS σ n (uPut ks us key v))) ()) ()
    | _ => False := by
  unfold qPut
  congr 1
  funext v
  congr 1
  funext o
  congr 1
  funext kd σ
  cases o <;> cases uKey kd <;> rfl
@[simp ↓] theorem qUnl_def (pa : VZ U) (n : Nat) (t : List U → Option (List (Nat × U))) : qUnl pa n t Γ ⟨nx, rt, bk, ct, ex⟩ = pa Γ (fun a f => ex a f Γ) fun o σ => match o with
    | .ref m => oLs (σ m) (fun xs => xs.length = n ∧ oK (t xs) (fun bs => nxZ nx (setU Γ bs) σ ()) ()) ()
    | _ => False := by
  unfold qUnl
  congr 1
  funext o σ
  cases o with
  | ref m =>
    show lstS σ m _ = _
    unfold lstS oLs
    congr 1
    funext xs
    dsimp only
    congr 1
    cases t xs <;> rfl
  | _ => rfl
end
end HV
namespace HV
open PySem PySem.Spec PyProof.Rows L2 HA
def zPt (u : U) (_ : ExS) (k : Option Int → MP) : MP := match u with
  | .int i => k (some i)
  | _ => fun _ => False
def zPart (p : VZ U) : VZ (Option Int) := z1 p zPt
section
variable {K : Dks}
end
section
variable (Γ : UEnv) (X : ExS) (k : Option Int → MP)
@[simp ↓] theorem zPart_def (p : VZ U) : zPart p Γ X k = p Γ X fun u => zPt u X k := nrfl rfl
@[simp] theorem zPt_int (i : Int) : zPt (.int i) X k = k (some i) := nrfl rfl
end
end HV
namespace HV
open PySem PySem.Spec PyProof.Rows L2 HA
def relS (σ : Sto) (n : Nat) : Sto := fun m => if m = n then none else σ m
def zValO (u : U) (k : U → MP) : MP := match u with
  | .ref n => fun σ => lstS σ n fun us => k (.lst us) (relS σ n)
  | u => k u
def zVal (p : VZ U) : VZ U := fun Γ X k => p Γ X fun u => zValO u k
section
variable {K : Dks}
end
section
variable (Γ : UEnv) (X : ExS) (k : U → MP)
@[simp ↓] theorem zVal_def (p : VZ U) : zVal p Γ X k = p Γ X fun u => zValO u k := nrfl rfl
theorem zValO_ref {n : Nat} {us : List U} {σ : Sto} (h : σ n = some (.lst us)) : zValO (.ref n) k σ = k (.lst us) (relS σ n) := by
  show lstS σ n (fun us => k (.lst us) (relS σ n)) = _
  unfold lstS
  rw [h]
end
end HV
namespace HV
open PySem PySem.Spec PyProof.Rows L2 HA
def vGtB : V2o Bool
  | .bl b, .int j, _, k => k (decide (j < dI b))
  | .int i, .int j, _, k => k (decide (j < i))
  | _, _, _, _ => False
variable {K : Dks}
@[simp ↓] theorem vGtB_int (i j : Int) (X : ExK) (kb : Bool → Prop) : vGtB (.int i) (.int j) X kb = kb (decide (j < i)) := nrfl rfl
@[simp ↓] theorem vGtB_bl (b : Bool) (j : Int) (X : ExK) (kb : Bool → Prop) : vGtB (.bl b) (.int j) X kb = kb (decide (j < dI b)) := nrfl rfl
end HV
namespace HV
open PySem PySem.Spec PyProof.Rows L2 HA
def zDGet2 (pm pk px : VZ U) : VZ U := fun Γ X k => pm Γ X fun u σ => (∃ ks us, u = .dK ks us) ∧ pk Γ X (fun kd => px Γ X fun z σ => vDGet u kd z fun r => k r σ) σ
section
variable {K : Dks}
end
section
variable (Γ : UEnv) (X : ExS) (k : U → MP)
@[simp ↓] theorem zDGet2_def (pm pk px : VZ U) : zDGet2 pm pk px Γ X k = pm Γ X fun u σ => (∃ ks us, u = .dK ks us) ∧ pk Γ X (fun kd => px Γ X fun z σ => vDGet u kd z fun r => k r σ) σ := nrfl rfl
end
end HV
namespace HV
open PySem PySem.Spec PyProof.Rows L2 HA
def vIntS : List U → ExK → (U → Prop) → Prop
  | [.int i], _, k => k (.int i)
  | [.bl b], _, k => k (.int (if b then 1 else 0))
  | [.str a], _, k => a.length ≤ 640 ∧ match PySem.intText? a with
      | some n => k (.int n)
      | none => False
  | _, _, _ => False
variable {K : Dks}
section
variable (X : ExK) (k : U → Prop)
@[simp ↓] theorem vIntS_int (i : Int) : vIntS [.int i] X k = k (.int i) := nrfl rfl
@[simp ↓] theorem vIntS_bl (b : Bool) : vIntS [.bl b] X k = k (.int (if b then 1 else 0)) := nrfl rfl
theorem vIntS_str {a : Str} {n : Int} (h : PySem.intText? a = some n) (hl : a.length ≤ 640) : vIntS [.str a] X k = k (.int n) := by
  show (a.length ≤ 640 ∧ (match PySem.intText? a with | some n => k (.int n) | none => False)) = _
  rw [h, eq_true hl, true_and]
end
end HV
namespace HV
open PySem PySem.Spec PyProof.Rows L2 HA
def vCountS : U → List U → ExK → (U → Prop) → Prop
  | .str a, [.str b], _, k => k (.int (Txt.count a b))
  | _, _, _, _ => False
def vChars : U → ExK → (List U → Prop) → Prop
  | .str z, _, k => z.length ≤ line ∧ k (charsU z)
  | _, _, _ => False
variable {K : Dks}
@[simp ↓] theorem vCountS_def (X : ExK) (k : U → Prop) (a b : Str) : vCountS (.str a) [.str b] X k = k (.int (Txt.count a b)) := nrfl rfl
@[simp ↓] theorem vChars_str (X : ExK) (k : List U → Prop) (z : Str) : vChars (.str z) X k = (z.length ≤ line ∧ k (charsU z)) := nrfl rfl
end HV
namespace HV
open PySem PySem.Spec PyProof.Rows L2 HA
def pairU : U → Option (Key × U)
  | .tup [a, b] => (uKey a).map fun kk => (kk, b)
  | _ => none
def vDictP (pl : VE (List U)) : VE U := fun Γ X k => pl Γ X fun us => match optAll pairU us with
  | some kvs => k (uDisp kvs [] [])
  | none => False
variable {K : Dks}
@[simp ↓] theorem vDictP_def (pl : VE (List U)) (Γ : UEnv) (X : ExK) (k : U → Prop) : vDictP pl Γ X k = pl Γ X fun us => oK (optAll pairU us) (fun kvs => k (uDisp kvs [] [])) () := by
  unfold vDictP
  congr 1
  funext us
  cases optAll pairU us <;> rfl
end HV
namespace HV
open PySem PySem.Spec PyProof.Rows L2 HA
def qTail (pi po : VZ U) (pv : VZ U) : VQ := fun Γ S => pv Γ (fun a f => S.ex a f Γ) fun v => po Γ (fun a f => S.ex a f Γ) fun o => pi Γ (fun a f => S.ex a f Γ) fun kd σ => match o, kd, v with
  | .ref n, .int i, .lst ys => lstS σ n fun xs => 0 ≤ i ∧ i ≤ xs.length ∧ xs.length + ys.length ≤ line ∧ S.nx Γ (updS σ n (.lst (xs.take i.toNat ++ ys)))
  | _, _, _ => False
variable {K : Dks}
variable {Γ : UEnv} (nx : UEnv → MP) (rt : U → MP) (bk ct : UEnv → MP) (ex : Str → EF → UEnv → MP)
def tailS (n : Nat) (i : Int) (v : U) (σ : Sto) (k : Sto → Prop) : Prop := match v with
  | .lst ys => oLs (σ n) (fun xs => 0 ≤ i ∧ i ≤ xs.length ∧ xs.length + ys.length ≤ line ∧ k (updS σ n (.lst (xs.take i.toNat ++ ys)))) ()
  | _ => False
@[simp ↓] theorem qTail_def (pi po pv : VZ U) : qTail pi po pv Γ ⟨nx, rt, bk, ct, ex⟩ = pv Γ (fun a f => ex a f Γ) fun v => po Γ (fun a f => ex a f Γ) fun o => pi Γ (fun a f => ex a f Γ) fun kd σ => match o with
  | .ref n => oI kd (fun i => tailS n i v σ (fun τ => nxZ nx Γ τ ())) ()
  | _ => False := by
  unfold qTail
  congr 1; funext v; congr 1; funext o; congr 1; funext kd σ
  cases o <;> try rfl
  cases kd <;> try rfl
  cases v <;> rfl
theorem tailS_some {n : Nat} {i : Int} {xs ys : List U} {σ : Sto} {k : Sto → Prop} (h : σ n = some (.lst xs)) (h0 : 0 ≤ i) (h1 : i ≤ xs.length) (h2 : xs.length + ys.length ≤ 16777216) : tailS n i (.lst ys) σ k = k (updS σ n (.lst (xs.take i.toNat ++ ys))) := by
  unfold tailS
  dsimp only
  rw [h]
  show (0 ≤ i ∧ i ≤ xs.length ∧ xs.length + ys.length ≤ line ∧ k _) = k _
  rw [eq_true h0, eq_true h1, eq_true (show xs.length + ys.length ≤ line from h2), true_and, true_and, true_and]
section
variable {α : Type}
def zSnap (j : Nat) (p : VE α) : VZ α := fun Γ X k σ => match Γ[j]? with
  | some (some (.ref n)) => lstS σ n fun us => p (Γ.set j (some (.lst us))) (fun _ _ => False) fun a => k a σ
  | _ => False
end
end HV
namespace HV
open PySem PySem.Spec PyProof.Rows L2 HA
def bK (r : U) (f : Bool → Prop) : Prop := match r with
  | .bl b => f b
  | _ => False
@[simp] theorem bK_bl (b : Bool) (f : Bool → Prop) : bK (.bl b) f = f b := rfl
theorem bK_at {r : U} {f : Bool → Prop} (h : bK r f) : ∃ b, r = .bl b ∧ f b := by
  unfold bK at h
  split at h
  · exact ⟨_, rfl, h⟩
  · exact h.elim
def vEqM (v : VTab) (neg : Bool) (u w : U) (_ : ExK) (k : Bool → Prop) : Prop := match u, w with
  | .ins C fs us, .ins C' fs' us' => C' = C ∧ match v.lookup C with
    | some p => p [.ins C fs us, .ins C' fs' us'] (fun _ _ => False) fun r => bK r fun b => k (b != neg)
    | none => False
  | _, _ => False
def zEqM (v : ZTab) (neg : Bool) (u w : U) (_ : ExS) (k : Bool → MP) : MP := fun σ => match u, w with
  | .ref n, .ref m => insS σ n fun C _ _ => insS σ m fun C' _ _ => C' = C ∧ match v.lookup C with
    | some p => p [.ref n, .ref m] (fun _ _ _ => False) (fun r τ => bK r fun b => k (b != neg) τ) σ
    | none => False
  | _, _ => False
section
variable {K : Dks}
theorem le_eqM {t : MTab} {v : VTab} {neg : Bool} {c c' : Nat} {ma mb : EM D} {pa pb : VE U} (h : LE K RU c ma pa) (h' : LE K RU c' mb pb) (T : TabR K 0 t v) : LE K (REq Bool) (sq c c') (e2 ma mb (cEqM t neg)) (v2 pa pb (vEqM v neg)) := ⟨fun {ok Γ env ah0 N X k} o e kk l x => by
  have s := cb_sq c c'
  refine PR.bind (h.to o e kk (by omega) x) (Nat.add_le_add_left (cb_left c c') N) fun a b1 ah1 ka q g1 k1 => ?_
  refine PR.bind ((h'.to (o.grow g1) (e.grow o g1) k1 (by omega) ka).le (M := N + cb (sq c c')) (by omega)) (Nat.le_refl _) fun a' b' ah ka2 q1 g2 k2 => ?_
  have o2 := (o.grow g1).grow g2
  have q' : R ok ah a b1 := R.grow q (o.grow g1) g2
  revert ka2
  generalize k2 = kk2
  intro x
  unfold vEqM at x
  split at x
  · rename_i C fs us C' fs' us'
    obtain ⟨rfl, x⟩ := x
    have q0 : R ok ah (.ins C' fs us) b1 := q'
    have q2 : R ok ah (.ins C' fs' us') b' := q1
    have qs : RUs.r ok ah [.ins C' fs us, .ins C' fs' us'] [b1, b'] := (Rs.cons q0 (Rs.cons q2 Rs.nil) : Rs ok ah _ _)
    simp only [R] at q0 q2
    obtain ⟨n, kvs, rfl, _, en, _, _⟩ := q0
    obtain ⟨m, kvs', rfl, _, em, _, _⟩ := q2
    split at x
    · rename_i p hp
      obtain ⟨mf, e1, lf⟩ := T.look hp
      have key := lf.to o2 qs kk2 (by rw [cb_zero]; omega) x
      unfold cEqM
      simp only [en, em, if_true, e1]
      cases e5 : mf [.ref n, .ref m] ah with
      | ok d ah2 =>
        rw [e5] at key
        obtain ⟨r, hr, qr, g, k2⟩ := key
        obtain ⟨bb, rfl, hk⟩ := bK_at hr
        have qd : d = .bl bb := by
          have : R ok ah2 (.bl bb) d := qr
          simpa only [R] using this
        subst qd
        exact ⟨_, hk, rfl, g, by rw [cb_zero] at k2; exact k2⟩
      | exn c fs2 ah2 =>
        rw [e5] at key
        obtain ⟨f, z, _⟩ := key
        exact z.elim
      | stuck => rw [e5] at key; exact key.elim
    · exact x.elim
  · exact x.elim⟩
theorem vEqM_go {v : VTab} {neg : Bool} {C : Str} {fs fs' : List Str} {us us' : List U} {X : ExK} {k : Bool → Prop} {p} (h : v.lookup C = some p) : vEqM v neg (.ins C fs us) (.ins C fs' us') X k = cal p [.ins C fs us, .ins C fs' us'] (fun _ _ => False) (fun r => bK r fun b => k (b != neg)) () := by
  unfold vEqM
  simp only [h, true_and]
  rfl
end
def vIsiO (cs : List Str) (us : List U) (_ : ExK) (k : U → Prop) : Prop := match us with
  | [u, .glo C] => match u with
    | .ins C' _ _ => C' = C ∧ k (.bl true)
    | u => (uName u).isSome = true ∧ C ∈ cs ∧ k (.bl false)
  | _ => False
def zIsiO (cs : List Str) (us : List U) (_ : ExS) (k : U → MP) : MP := fun σ => match us with
  | [.ref n, .glo C] => insS σ n fun C' _ _ => C' = C ∧ k (.bl true) σ
  | us => vIsiO cs us (fun _ _ => False) fun u => k u σ
section
variable {K : Dks}
theorem uName_s {ok : Nat → Prop} {ah : AH} {u : U} {d : D} (r : R ok ah u d) (h : (uName u).isSome = true) : ∃ T, tyName d ah = some T := by
  cases u <;> simp only [R] at r
  all_goals first
    | (cases h; done)
    | (subst r; exact ⟨_, rfl⟩)
    | (obtain ⟨n, ds, rfl, _, e, _⟩ := r; unfold tyName; simp only [e]; exact ⟨_, rfl⟩)
    | (obtain ⟨ds, rfl, _⟩ := r; exact ⟨_, rfl⟩)
theorem isiO_core {ok : Nat → Prop} {ah : AH} {us : List U} {ds : List D} {cs : List Str} {X : ExK} {k : U → Prop} (q : Rs ok ah us ds) (x : vIsiO cs us X k) : ∃ b, k (.bl b) ∧ oIsiO cs ds ah = .ok (.bl b) ah := by
  unfold vIsiO at x
  split at x
  · rename_i u C
    simp only [Rs] at q
    obtain ⟨d, es, rfl, q0, e, es2, rfl, q1, rfl⟩ := q
    have q1' : e = .glo C := by simpa only [R] using q1
    subst q1'
    split at x
    · rename_i C' fs vs
      obtain ⟨rfl, x⟩ := x
      simp only [R] at q0
      obtain ⟨n, kvs, rfl, _, en, _, _⟩ := q0
      refine ⟨true, x, ?_⟩
      unfold oIsiO insName
      simp only [en, if_true]
    · rename_i hni
      obtain ⟨x1, x2, x3⟩ := x
      obtain ⟨T, hT⟩ := uName_s q0 x1
      refine ⟨false, x3, ?_⟩
      have hi : insName d ah = none := by
        unfold insName
        unfold tyName at hT
        cases d with
        | ref n =>
          simp only at hT ⊢
          cases e : ah[n]? with
          | none => rfl
          | some o =>
            rw [e] at hT
            cases o with
            | ins C fs => simp at hT
            | _ => rfl
        | _ => rfl
      unfold oIsiO
      simp only [hi, hT, x2, if_true]
  · exact x.elim
theorem lo_isiO {cs : List Str} : LO1 K RUs RU 0 (oIsiO cs) (vIsiO cs) := ⟨fun {ok ah N X k a b} o q kk l x => by
  obtain ⟨v, hk, e⟩ := isiO_core (show Rs ok ah a b from q) x
  rw [e]
  exact .okI hk (show R ok ah _ _ by simp only [R]) kk⟩
theorem vIsiO_ins {cs : List Str} {C C' : Str} {fs : List Str} {us : List U} {X : ExK} {k : U → Prop} : vIsiO cs [.ins C' fs us, .glo C] X k = (C' = C ∧ k (.bl true)) := rfl
end
end HV
namespace HV
open PySem PySem.Spec PyProof.Rows L2 HA
def tStarB (n : Nat) (r : List U → Option (List (Nat × U))) : VTM := fun u => match u with
  | .tup us => tStar n r (.tup us)
  | u => tStarL n r u
@[simp] theorem tStarB_tup (n : Nat) (r : List U → Option (List (Nat × U))) (us : List U) : tStarB n r (.tup us) = if n ≤ us.length then r (us.take n ++ [.lst (us.drop n)]) else none := nrfl rfl
@[simp] theorem tStarB_lst (n : Nat) (r : List U → Option (List (Nat × U))) (us : List U) : tStarB n r (.lst us) = if n ≤ us.length then r (us.take n ++ [.lst (us.drop n)]) else none := nrfl rfl
end HV
namespace HV
open PySem PySem.Spec PyProof.Rows L2 HA
def qTryF (t : STab) (p : VQ) (x f : Str) (i j : Nat) : VQ := fun Γ S => p Γ ⟨S.nx, S.rt, S.bk, S.ct, fun c fl Γ' σ => match sLook t c "NoBase" with
  | some true => match Γ'[j]? with
    | some (some u) => S.ex x (some ([f], [u])) (Γ'.set i none) σ
    | _ => False
  | some false => S.ex c fl Γ' σ
  | none => False⟩
section
variable {Γ : UEnv} {nx bk ct : UEnv → MP} {rt : U → MP} {ex : Str → EF → UEnv → MP}
@[simp ↓] theorem qTryF_def (t : STab) (p : VQ) (x f : Str) (i j : Nat) : qTryF t p x f i j Γ ⟨nx, rt, bk, ct, ex⟩ = p Γ ⟨nx, rt, bk, ct, fun c fl Γ' σ => match sLook t c "NoBase" with
  | some true => match Γ'[j]? with
    | some (some u) => ex x (some ([f], [u])) (Γ'.set i none) σ
    | _ => False
  | some false => ex c fl Γ' σ
  | none => False⟩ := rfl
end
end HV
namespace HV
open PySem PySem.Spec PyProof.Rows L2 HA
def vSortK (u : U) (_ : ExK) (k : List U → Prop) : Prop := match u with
  | .dK ks _ => match optAll keyT ks with
    | some ss => ss.length < 64 ∧ k ((ss.mergeSort strLe).map U.str)
    | none => False
  | _ => False
section
variable {X : ExK} {kl : List U → Prop}
@[simp ↓] theorem vSortK_def (ks : List Key) (us : List U) (ss : List Str) (h : optAll keyT ks = some ss) : vSortK (.dK ks us) X kl = (ss.length < 64 ∧ kl ((ss.mergeSort strLe).map U.str)) := by
  unfold vSortK
  simp only [h]
end
def vEqE (neg : Bool) (u w : U) (_ : ExK) (k : Bool → Prop) : Prop := match u, w with
  | .dK _ us, .dK [] [] => k (decide (us.length = 0) != neg)
  | _, _ => False
section
variable {X : ExK} {kb : Bool → Prop}
@[simp ↓] theorem vEqE_def (neg : Bool) (ks : List Key) (us : List U) : vEqE neg (.dK ks us) (.dK [] []) X kb = kb (decide (us.length = 0) != neg) := rfl
end
end HV
namespace HV
open PySem PySem.Spec PyProof.Rows L2 HA
variable {K : Dks}
def vKV (pk pv : VE U) : VE U := fun Γ X k => pk Γ X fun a => oK (uKey a) (fun _ => pv Γ X fun b => k (.tup [a, b])) ()
@[simp ↓] theorem vKV_def (pk pv : VE U) (Γ : UEnv) (X : ExK) (k : U → Prop) : vKV pk pv Γ X k = pk Γ X fun a => oK (uKey a) (fun _ => pv Γ X fun b => k (.tup [a, b])) () := nrfl rfl
theorem le_kv {c c' : Nat} {mk mv : EM D} {pk pv : VE U} (h : LE K RU c mk pk) (h' : LE K RU c' mv pv) : LE K RU (sq c c') (eKV mk mv) (vKV pk pv) := ⟨fun {ok Γ env ah N X k} o e kk l x => by
  have s := cb_sq c c'
  refine PR.bind (h.to o e kk (by omega) x) (by omega) fun a d ah1 ka q g k1 => ?_
  change R ok ah1 a d at q
  cases hk : uKey a with
  | none => rw [hk] at ka; exact ka.elim
  | some kk0 =>
    rw [hk, oK_some] at ka
    rw [uKey_d q hk]
    simp only
    refine PR.bind (M := N + cb (sq c c')) ((h'.to (o.grow g) (e.grow o g) k1 (by omega) ka).le (by omega)) (Nat.le_refl _) fun b d' ah2 kb q' g' k2 => ?_
    refine .okI kb ?_ k2
    show R ok ah2 (.tup [a, b]) (.tup [d, d'])
    simp only [R]
    exact ⟨[d, d'], rfl, Rs.cons (R.grow q (o.grow g) g') (Rs.cons q' Rs.nil)⟩⟩
def zDictS (p : VZ (List U)) : VZ U := z1 p fun us _ k σ => match optAll pairU us with
  | some kvs => ∀ n, 3 ≤ n → σ n = none → k (.ref n) (updS σ n (uDisp kvs [] []))
  | none => False
end HV
namespace HV
open PySem PySem.Spec PyProof.Rows L2 HA
variable {K : Dks}
def zLcI (po : VZ U) (vt : VTM) (pt : VE Bool) (pe : VE U) (vs : List Nat) : VZ (List U) := fun Γ X k => po Γ X fun o σ => match o with
  | .ref n => lstS σ n fun us => us.length ≤ line ∧ vLcL vt pt pe (wipeU Γ vs) us fun ys => k ys σ
  | _ => False
def itS (o : U) (k : List U → MP) (d : Dm k) : MP := fun σ => match o with
  | .ref n => oLs (σ n) (fun us => us.length ≤ line ∧ k us σ) ()
  | _ => False
@[simp ↓] theorem zLcI_def (po : VZ U) (vt : VTM) (pt : VE Bool) (pe : VE U) (vs : List Nat) (Γ : UEnv) (X : ExS) (k : List U → MP) : zLcI po vt pt pe vs Γ X k = po Γ X fun o => itS o (fun us σ => lcL vt pt pe (wipeU Γ vs) us (fun ys => k ys σ) ()) () := by
  unfold zLcI
  congr 1
  all_goals (funext o σ; unfold itS; cases o <;> rfl)
theorem itS_some {n : Nat} {us : List U} {σ : Sto} {k : List U → MP} {d : Dm k} (h : σ n = some (.lst us)) (hl : us.length ≤ 16777216) : itS (.ref n) k d σ = k us σ := by
  unfold itS
  dsimp only
  rw [h]
  show (us.length ≤ line ∧ k us σ) = _
  rw [eq_true (show us.length ≤ line from hl), true_and]
end HV
namespace HV
open PySem PySem.Spec PyProof.Rows L2 HA
variable {K : Dks}
def zDnewS : VZ U := fun _ _ k σ => ∀ n, 3 ≤ n → σ n = none → k (.ref n) (updS σ n (.dK [] []))
def zInS (neg : Bool) : Z2o Bool
  | kd, .ref n, _, k => fun σ => dctS σ n fun ks _ => match uKey kd with
    | some kk => k ((ks.any fun z => decide (z = kk)) != neg) σ
    | none => False
  | _, _, _, _ => fun _ => False
@[simp ↓] theorem zInS_def (neg : Bool) (kd : U) (n : Nat) (X : ExS) (k : Bool → MP) (σ : Sto) : zInS neg kd (.ref n) X k σ = oDs (σ n) (fun ks _ => oK (uKey kd) (fun kk => k ((ks.any fun z => decide (z = kk)) != neg) σ) ()) () := by
  have h : zInS neg kd (.ref n) X k σ = dctS σ n fun ks _ => match uKey kd with
    | some kk => k ((ks.any fun z => decide (z = kk)) != neg) σ
    | none => False := by cases kd <;> rfl
  rw [h]
  unfold dctS oDs
  cases σ n with
  | none => rfl
  | some u =>
    cases u <;> first | rfl | skip
    cases uKey kd <;> rfl
end HV
namespace HV
open PySem PySem.Spec PyProof.Rows L2 HA
variable {K : Dks}
def pairsU (ss : List Str) (z : Str) : List U := (ss.filter fun s => !decide (s = z)).map fun s => .tup [.str s, .bl true]
def oKN (a b : Option (Option U)) (n : Bool) (k : List U → Prop) (_ : Dm k) : Prop := match a, b with
  | some (some (.dK ks us)), some (some (.str z)) => match optAll keyT ks with
    | some ss => (ss.length < 4096 ∧ n = true) ∧ k (pairsU ss z)
    | none => False
  | _, _ => False
def vKN (i r j : Nat) : VE (List U) := fun Γ _ k => oKN Γ[i]? Γ[r]? (decide (j < Γ.length)) k ()
@[simp ↓] theorem vKN_def (i r j : Nat) (Γ : UEnv) (X : ExK) (k : List U → Prop) : vKN i r j Γ X k = oKN Γ[i]? Γ[r]? (decide (j < Γ.length)) k () := rfl
theorem pairs_R {ok : Nat → Prop} {ah : AH} (z : Str) (ss : List Str) : Rs ok ah (pairsU ss z) (pairsK ss z) := by
  unfold pairsU pairsK
  generalize ss.filter (fun s => !decide (s = z)) = l
  induction l with
  | nil => exact Rs.nil
  | cons s l ih =>
    rw [List.map_cons, List.map_cons]
    refine Rs.cons ?_ ih
    simp only [R]
    exact ⟨[.str s, .bl true], rfl, Rs.cons (by simp only [R]) (Rs.cons (by simp only [R]) Rs.nil)⟩
end HV
namespace HV
open PySem PySem.Spec PyProof.Rows L2 HA
variable {K : Dks}
def zSnapU (j : Nat) (p : VE U) : VZ U := fun Γ X k σ => match Γ[j]? with
  | some (some (.ref n)) => lstS σ n fun us => p (Γ.set j (some (.lst us))) (fun _ _ => False) fun a => a.flat = true ∧ k a σ
  | _ => False
def butS (σ : Sto) (n : Nat) : Sto := fun m => if m = n then none else σ m
def zLend (j : Nat) (p : VZ U) : VZ U := fun Γ X k σ => match Γ[j]? with
  | some (some (.ref n)) => lstS σ n fun us => (∀ m c, σ m = some c → m ≠ n → ∃ xs, c = .lst xs ∧ U.flats xs = true) ∧ p (Γ.set j (some (.lst us))) (fun _ _ _ => False) (fun a τ => (a.flat = true ∧ τ = butS σ n) ∧ k a σ) (butS σ n)
  | _ => False
end HV
namespace HV
open PySem PySem.Spec PyProof.Rows L2 HA
variable {K : Dks}
def qSetF (C : List (Str × List Str)) (f : Str) (po : VZ U) (x : U) : VQ := fun Γ S => po Γ (fun a g => S.ex a g Γ) fun o σ => match o with
  | .ref n => insS σ n fun c fs us => (hasF C c f = true ∧ fs.length < 1000) ∧ S.nx Γ (updS σ n (.ins c (putK f fs) (putV f x fs us)))
  | _ => False
def qPairF (C : List (Str × List Str)) (f g : Str) (po po2 pv : VZ U) : VQ := fun Γ S => pv Γ (fun a h => S.ex a h Γ) fun v => match v with
  | .tup [x, y] => qSetF C f po x Γ { S with nx := fun Γ' => qSetF C g po2 y Γ' S }
  | _ => fun _ => False
end HV
namespace HV
open PySem PySem.Spec PyProof.Rows L2 HA
variable {K : Dks}
def qPar3 (i j l : Nat) (p : VZ (List U)) : VQ := fun Γ S => p Γ (fun a f => S.ex a f Γ) fun us σ => match us with
  | [x, y, z] => S.nx (((Γ.set i (some x)).set j (some y)).set l (some z)) σ
  | _ => False
theorem ss_par3 {c i j l : Nat} {m : EM (List D)} {p : VZ (List U)} (h : SE K RUs c m p) : SS K c (sPar3 i j l m) (qPar3 i j l p) := ⟨fun {Γ env σ ah N S} e st kk ll x =>
  PQR.expr e (h.to e st kk ll x) (Nat.le_refl _) fun us ds σ' ah' ka q g e' st' kk' => by
    change Rs (okS σ') ah' us ds at q
    split at ka
    · rename_i u v w
      simp only [Rs] at q
      obtain ⟨d, es, rfl, q1, e2, es2, rfl, q2, e3, es3, rfl, q3, rfl⟩ := q
      exact ⟨_, σ', ka, ((e'.set1 i q1).set1 j q2).set1 l q3, GrowS.refl, st', kk'⟩
    · exact ka.elim⟩
@[simp ↓] theorem qPar3_def (i j l : Nat) (p : VZ (List U)) (Γ : UEnv) (nx : UEnv → MP) (rt : U → MP) (bk ct : UEnv → MP) (ex : Str → EF → UEnv → MP) : qPar3 i j l p Γ ⟨nx, rt, bk, ct, ex⟩ = p Γ (fun a f => ex a f Γ) fun us σ => o3 us (fun x y z => nxZ nx (((Γ.set i (some x)).set j (some y)).set l (some z)) σ ()) () := by
  unfold qPar3
  congr 1
def oTup2 (u : U) (k : U → U → MP) : MP := fun σ => match u with
  | .tup [x, y] => k x y σ
  | _ => False
@[simp] theorem oTup2_def (x y : U) (k : U → U → MP) (σ : Sto) : oTup2 (.tup [x, y]) k σ = k x y σ := rfl
def oInsF (C : List (Str × List Str)) (f : Str) (x : U) (n : Nat) (k : MP) : MP := fun σ => insS σ n fun c fs us => (hasF C c f = true ∧ fs.length < 1000) ∧ k (updS σ n (.ins c (putK f fs) (putV f x fs us)))
end HV
namespace HV
open PySem PySem.Spec PyProof.Rows L2 HA
variable {K : Dks}
def zDispV (l : List (VZ U × VZ U)) : VZ U := fun Γ X k => zPairs l Γ X fun ps σ => match optAll (fun p => (uKey p.1).map fun kk => (kk, p.2)) ps with
  | some kvs => kvs.length ≤ 15 ∧ k (uDisp kvs [] []) σ
  | none => False
end HV
namespace HV
open PySem PySem.Spec PyProof.Rows L2 HA
variable {K : Dks}
def qSetP (po pi : VZ U) (x : U) : VQ := fun Γ S => po Γ (fun a f => S.ex a f Γ) fun o => pi Γ (fun a f => S.ex a f Γ) fun kd σ => match o, uKey kd with
  | .ref n, some key => dctS σ n fun ks us => ks.length < line ∧ S.nx Γ (updS σ n (uPut ks us key x))
  | _, _ => False
def qPairP (po pi po2 pi2 pv : VZ U) : VQ := fun Γ S => pv Γ (fun a h => S.ex a h Γ) fun v => match v with
  | .tup [x, y] => qSetP po pi x Γ { S with nx := fun Γ' => qSetP po2 pi2 y Γ' S }
  | _ => fun _ => False
section
variable {Γ : UEnv} (nx : UEnv → MP) (rt : U → MP) (bk ct : UEnv → MP) (ex : Str → EF → UEnv → MP)
@[simp ↓] theorem qSetP_def (po pi : VZ U) (x : U) : qSetP po pi x Γ ⟨nx, rt, bk, ct, ex⟩ = po Γ (fun a f => ex a f Γ) fun o => pi Γ (fun a f => ex a f Γ) fun kd σ => match o with
    | .ref n => oK (uKey kd) (fun key => oDs (σ n) (fun ks us => ks.length < line ∧ nx Γ (updS σ n (uPut ks us key x))) ()) ()
    | _ => False := by
  unfold qSetP
  congr 1
  funext o
  congr 1
  funext kd σ
  cases o <;> cases uKey kd <;> rfl
@[simp ↓] theorem qPairP_def (po pi po2 pi2 pv : VZ U) : qPairP po pi po2 pi2 pv Γ ⟨nx, rt, bk, ct, ex⟩ = pv Γ (fun a h => ex a h Γ) fun v => oTup2 v fun x y => qSetP po pi x Γ ⟨fun Γ' => qSetP po2 pi2 y Γ' ⟨nx, rt, bk, ct, ex⟩, rt, bk, ct, ex⟩ := by
  unfold qPairP oTup2
  show pv Γ (fun a h => ex a h Γ) _ = pv Γ (fun a h => ex a h Γ) _
  congr 1
  funext v σ
  match v with
  | .tup [x, y] => rfl
  | .tup [] => rfl
  | .tup [_] => rfl
  | .tup (_ :: _ :: _ :: _) => rfl
  | .lst _ => rfl
  | .dK _ _ => rfl
  | .dT _ _ => rfl
  | .ins _ _ _ => rfl
  | .ref _ => rfl
  | .int _ => rfl
  | .bl _ => rfl
  | .str _ => rfl
  | .non => rfl
  | .cst _ => rfl
  | .glo _ => rfl
  | .xv _ _ _ _ => rfl
end
end HV
namespace HV
open PySem PySem.Spec PyProof.Rows L2 HA
variable {K : Dks}
theorem lo_lzip : LO2 K RU RU RUs lZip (vZip true) := ⟨fun {ok ah N X k a b a' b'} o q q' kk x => by
  change R ok ah a b at q
  change R ok ah a' b' at q'
  unfold vZip at x
  split at x
  · rename_i xs ys e1 e2
    obtain ⟨ds, g, p1, r1, g1⟩ := part_R q e1
    obtain ⟨es, g', p2, r2, g2⟩ := part_R q' e2
    unfold lZip
    rw [p1, p2]
    simp only
    rw [if_pos (by rw [← r1.len, ← r2.len]; exact x.1 rfl)]
    exact .okI x.2 (Rs.pairs r1 r2) kk
  · exact x.elim⟩
end HV
namespace HV
open PySem PySem.Spec PyProof.Rows L2 HA
variable {K : Dks}
def uKeys (us : List U) : Option (List Key) := if us.length ≤ 16 then optAll uKey us else none
theorem uKeys_go {ok : Nat → Prop} {ah : AH} : ∀ (us : List U) (ds : List D) (kk : List Key), optAll uKey us = some kk → Rs ok ah us ds → optAll dKey ds = some kk
  | [], ds, kk, h, r => by
    cases h
    simp only [Rs] at r
    rw [r]
    rfl
  | u :: us, ds, kk, h, r => by
    simp only [Rs] at r
    obtain ⟨d, es, rfl, q, r⟩ := r
    unfold optAll at h
    split at h
    · rename_i a b e1 e2
      cases h
      unfold optAll
      rw [uKey_d q e1, uKeys_go us es _ e2 r]
    · cases h
theorem uKeys_d {ok : Nat → Prop} {ah : AH} {us : List U} {ds : List D} {kk : List Key} (r : Rs ok ah us ds) (h : uKeys us = some kk) : keysOf ds = some kk := by
  unfold uKeys at h
  unfold keysOf
  split at h
  · rename_i hl
    rw [if_pos (by rw [← r.len]; exact hl), uKeys_go us ds kk h r]
  · cases h
def dctT (σ : Sto) (n : Nat) (k : List (List Key) → List U → Prop) : Prop := match σ n with
  | some (.dT ks us) => k ks us
  | _ => False
theorem dctT_at {σ : Sto} {n : Nat} {k : List (List Key) → List U → Prop} (h : dctT σ n k) : ∃ ks us, σ n = some (.dT ks us) ∧ k ks us := by
  unfold dctT at h
  split at h
  · exact ⟨_, _, by assumption, h⟩
  · exact h.elim
theorem StoR.dctT {σ : Sto} {ah : AH} (st : StoR σ ah) {n : Nat} {ks : List (List Key)} {us : List U} (e : σ n = some (.dT ks us)) : ∃ kvs, ah[n]? = some (.dT kvs) ∧ kvs.map (·.1) = ks ∧ Rs (okS σ) ah us (kvs.map (·.2)) := by
  obtain ⟨_, o, e2, r⟩ := st.at' n _ e
  cases o with
  | dT kvs => obtain ⟨a, b⟩ := r; exact ⟨kvs, e2, a, b⟩
  | _ => exact r.elim
def zGetT (o : U) (us : List U) (_ : ExS) (k : U → MP) : MP := match o with
  | .ref n => fun σ => dctT σ n fun ks vs => match uKeys us with
    | some kk => match uVal ks vs kk with
      | some u => k u σ
      | none => False
    | none => False
  | _ => fun _ => False
theorem so_getT : SO2 K RU RUs RU oGetT zGetT := ⟨fun {σ ah N X k a b a' b'} q q' st kk x => by
  have q' : Rs (okS σ) ah a' b' := q'
  cases a with
  | ref n =>
    rw [RU_ref q]
    obtain ⟨ks, us, e, y⟩ := dctT_at (show dctT σ n _ from x)
    obtain ⟨kvs, ea, ek, r⟩ := st.dctT e
    split at y
    · rename_i key hk
      split at y
      · rename_i u hu
        obtain ⟨d, h1, h2⟩ := uVal_d _ _ _ ek r hu
        unfold oGetT
        simp only [uKeys_d q' hk, ea, h1]
        exact .okI y h2 st kk
      · exact y.elim
    · exact y.elim
  | _ => exact x.elim⟩
def uPutT (ks : List (List Key)) (us : List U) (kk : List Key) (v : U) : U := if (ks.any fun z => decide (z = kk)) = true then .dT ks ((ks.zip us).map fun p => if p.1 = kk then v else p.2) else .dT (ks ++ [kk]) (us ++ [v])
theorem put_RsT {ok : Nat → Prop} {ah : AH} {kk : List Key} {v : U} {dv : D} (q : R ok ah v dv) : ∀ (us : List U) (kvs : List (List Key × D)), Rs ok ah us (kvs.map (·.2)) → Rs ok ah (((kvs.map (·.1)).zip us).map fun p => if p.1 = kk then v else p.2) ((kvs.map fun kv => if kv.1 = kk then (kv.1, dv) else kv).map (·.2))
  | us, [], r => by simpa using Rs.nil
  | [], (a, d) :: kvs, r => by simp [Rs] at r
  | u :: us, (a, d) :: kvs, r => by
    simp only [List.map_cons, Rs] at r
    obtain ⟨d', es, e2, q2, r⟩ := r
    simp only [List.cons.injEq] at e2
    obtain ⟨rfl, rfl⟩ := e2
    have ih := put_RsT (kk := kk) (v := v) (dv := dv) q us kvs r
    by_cases c : a = kk
    · simp only [List.map_cons, List.zip_cons_cons, c, if_true]
      exact Rs.cons q ih
    · simp only [List.map_cons, List.zip_cons_cons, c, if_false]
      exact Rs.cons q2 ih
theorem put_ORT {ok : Nat → Prop} {ah : AH} {ks : List (List Key)} {us : List U} {kvs : List (List Key × D)} {key : List Key} {v : U} {dv : D} (e6 : kvs.map (·.1) = ks) (r' : Rs ok ah us (kvs.map (·.2))) (q' : R ok ah v dv) : OR ok ah (uPutT ks us key v) (.dT (putD kvs key dv)) := by
  unfold uPutT putD
  rw [← e6, List.any_map]
  have ea : kvs.any ((fun z => decide (z = key)) ∘ fun x => x.1) = kvs.any fun kv => decide (kv.1 = key) := rfl
  rw [ea]
  split
  · refine ⟨?_, put_RsT q' us kvs r'⟩
    rw [List.map_map]
    refine List.map_congr_left fun kv _ => ?_
    show (if kv.1 = key then (kv.1, dv) else kv).1 = kv.1
    split <;> rfl
  · exact ⟨by simp, by rw [List.map_append]; exact r'.app (Rs.cons q' Rs.nil)⟩
def qPutT (pi : VZ (List U)) (po pv : VZ U) : VQ := fun Γ S => pv Γ (fun a f => S.ex a f Γ) fun v => po Γ (fun a f => S.ex a f Γ) fun o => pi Γ (fun a f => S.ex a f Γ) fun us σ => match o, uKeys us with
  | .ref n, some key => dctT σ n fun ks vs => ks.length < line ∧ S.nx Γ (updS σ n (uPutT ks vs key v))
  | _, _ => False
theorem ss_putT {c c1 c2 : Nat} {mo mv : EM D} {mi : EM (List D)} {po pv : VZ U} {pi : VZ (List U)} (hv : SE K RU c mv pv) (ho : SE K RU c1 mo po) (hi : SE K RUs c2 mi pi) : SS K (sq c (sq c1 c2)) (sPutT mo mi mv) (qPutT pi po pv) := ⟨fun {Γ env σ ah N S} e st kk l x => by
  have s := cb_sq c (sq c1 c2)
  have s' := cb_sq c1 c2
  unfold sPutT
  refine PQR.expr e (hv.to e st kk (by omega) x) (by omega) fun v dv σ1 ah1 ka q g e1 st1 k1 => ?_
  refine PQR.expr e1 (ho.to e1 st1 k1 (by omega) ka) (by omega) fun o d σ2 ah2 ka2 q2 g2 e2 st2 k2 => ?_
  refine PQR.expr e2 ((hi.to e2 st2 k2 (by omega) ka2).le (M := N + cb (sq c (sq c1 c2))) (by omega)) (Nat.le_refl _) fun kd dd σ3 ah3 ka3 q3 g3 e3 st3 k3 => ?_
  split at ka3
  · rename_i n key hk
    have q3' : Rs (okS σ3) ah3 kd dd := q3
    rw [uKeys_d q3' hk, RU_ref (RU.growS q2 g3)]
    obtain ⟨ks, us, es, hl, y⟩ := dctT_at ka3
    obtain ⟨kvs, ea, ek, r⟩ := st3.dctT es
    simp only [ea]
    rw [if_pos (by rw [← ek, List.length_map] at hl; exact hl)]
    have h3 := (st3.at' _ _ es).1
    obtain ⟨f1, f2⟩ := st3.put es (c' := uPutT ks us key v) (o' := .dT (putD kvs key dv)) (put_ORT ek r (R.growS (R.growS q g2) g3))
    exact ⟨Γ, _, y, e3.growS f2, f2, f1, K.set k3 h3⟩
  · exact ka3.elim⟩
def zDnewT : VZ U := fun _ _ k σ => ∀ n, 3 ≤ n → σ n = none → k (.ref n) (updS σ n (.dT [] []))
theorem se_dnewT : SE K RU 0 eDnewT zDnewT := ⟨fun {Γ env σ ah N X k} e st kk l x => by
  have l3 := K.len kk
  obtain ⟨g1, g2, g3, g4⟩ := st.new (c := .dT [] []) (o := .dT []) l3 (Grow.app (x := [.dT []])) (Nat.le_refl _) (by simp) ⟨rfl, Rs.nil⟩
  exact ⟨_, _, x _ g2 g1, by simp only [RU, R], g4, g3, K.app _ kk⟩⟩
section
variable (Γ : UEnv) (X : ExS) (k : U → MP) (σ : Sto) (nx : UEnv → MP) (rt : U → MP) (bk ct : UEnv → MP) (ex : Str → EF → UEnv → MP)
def oDT (o : Option U) (k : List (List Key) → List U → Prop) (_ : Dm k) : Prop := match o with
  | some (.dT ks us) => k ks us
  | _ => False
theorem oDT_some {ks : List (List Key)} {us : List U} {o : Option U} {k} {d} (e : o = some (.dT ks us)) : oDT o k d = k ks us := by rw [e]; rfl
@[simp ↓] theorem zGetT_ref (n : Nat) (us : List U) : zGetT (.ref n) us X k σ = oK (uKeys us) (fun kk => oDT (σ n) (fun ks vs => oK (uVal ks vs kk) (fun u => k u σ) ()) ()) () := by
  unfold zGetT dctT oDT oK
  dsimp only
  cases σ n with
  | none => cases uKeys us <;> rfl
  | some c => cases c <;> cases uKeys us <;> first | rfl | (rename_i a b c; dsimp only; cases uVal a b c <;> rfl)
@[simp ↓] theorem qPutT_def (pi : VZ (List U)) (po pv : VZ U) : qPutT pi po pv Γ ⟨nx, rt, bk, ct, ex⟩ = pv Γ (fun a f => ex a f Γ) fun v => po Γ (fun a f => ex a f Γ) fun o => pi Γ (fun a f => ex a f Γ) fun us σ => match o with
    | .ref n => oK (uKeys us) (fun key => oDT (σ n) (fun ks vs => ks.length < line ∧ nx Γ (updS σ n (uPutT ks vs key v))) ()) ()
    | _ => False := by
  unfold qPutT
  congr 1
  funext v
  congr 1
  funext o
  congr 1
  funext us σ
  cases o <;> cases uKeys us <;> rfl
@[simp ↓] theorem zDnewT_def : zDnewT Γ X k σ = aN σ (fun n => k (.ref n) (updS σ n (.dT [] []))) () := nrfl rfl
end
end HV
namespace HV
open PySem PySem.Spec PyProof.Rows L2 HA
def sK (r : U) (f : Str → Prop) : Prop := match r with
  | .str b => f b
  | _ => False
@[simp] theorem sK_str (b : Str) (f : Str → Prop) : sK (.str b) f = f b := rfl
theorem sK_at {r : U} {f : Str → Prop} (h : sK r f) : ∃ b, r = .str b ∧ f b := by
  unfold sK at h
  split at h
  · exact ⟨_, rfl, h⟩
  · exact h.elim
def vStrM (v : VTab) (us : List U) (_ : ExK) (k : U → Prop) : Prop := match us with
  | [.ins C fs ws] => match v.lookup C with
    | some p => p [.ins C fs ws] (fun _ _ => False) fun r => sK r fun b => k (.str b)
    | none => False
  | _ => False
section
variable {K : Dks}
theorem le_strM {t : MTab} {v : VTab} {c : Nat} {ml : EM (List D)} {pa : VE (List U)} (h : LE K RUs c ml pa) (T : TabR K 0 t v) : LE K RU (sq c 0) (e1 ml (oStrM t)) (v1 pa (vStrM v)) := ⟨fun {ok Γ env ah0 N X k} o e kk l x => by
  have s := cb_sq c 0
  refine PR.bind (h.to o e kk (by omega) x) (Nat.add_le_add_left (cb_left c 0) N) fun a b ah ka q g1 k2 => ?_
  have o2 := o.grow g1
  have q : Rs ok ah a b := q
  unfold vStrM at ka
  split at ka
  · rename_i C fs ws _
    simp only [Rs] at q
    obtain ⟨d, es, rfl, q0, rfl⟩ := q
    have qs : RUs.r ok ah [.ins C fs ws] [d] := (Rs.cons q0 Rs.nil : Rs ok ah _ _)
    simp only [R] at q0
    obtain ⟨n, kvs, rfl, _, en, _, _⟩ := q0
    split at ka
    · rename_i p hp
      obtain ⟨mf, e1, lf⟩ := T.look hp
      have key := lf.to o2 qs k2 (by rw [cb_zero]; omega) ka
      unfold oStrM
      simp only [en, e1]
      cases e5 : mf [.ref n] ah with
      | ok d ah2 =>
        rw [e5] at key
        obtain ⟨r, hr, qr, g, k3⟩ := key
        obtain ⟨bb, rfl, hk⟩ := sK_at hr
        have qd : d = .str bb := by
          have : R ok ah2 (.str bb) d := qr
          simpa only [R] using this
        subst qd
        exact ⟨.str bb, hk, (show R ok ah2 (.str bb) (.str bb) by simp only [R]), g, by rw [cb_zero] at k3; exact K.mono k3 (by omega)⟩
      | exn c fs2 ah2 =>
        rw [e5] at key
        obtain ⟨f, z, _⟩ := key
        exact z.elim
      | stuck => rw [e5] at key; exact key.elim
    · exact ka.elim
  · exact ka.elim⟩
theorem vStrM_go {v : VTab} {C : Str} {fs : List Str} {us : List U} {X : ExK} {k : U → Prop} {p} (h : v.lookup C = some p) : vStrM v [.ins C fs us] X k = cal p [.ins C fs us] (fun _ _ => False) (fun r => sK r fun b => k (.str b)) () := by
  unfold vStrM
  simp only [h]
  rfl
end
end HV
set_option exponentiation.threshold 7000
namespace HL
open PySem PySem.Spec PyProof.Rows L2 HA HV
abbrev KK : Dks := dksA
def p__law_draw : List U → ExK → (U → Prop) → Prop := vDraw
theorem l__law_draw : LF KK 1 m__law_draw p__law_draw := lf_drawA
def pb__law_words : VS := (vSeq (vAsg [] (vNew (vLst (vaCons (vTup (vaCons (vC (.str "cast")) (vaCons (vNew (vLst (vaCons (vC (.str "none")) (vaCons (vC (.str "shown")) (vaCons (vC (.str "any")) vaNil))))) vaNil))) (vaCons (vTup (vaCons (vC (.str "order")) (vaCons (vNew (vLst (vaCons (vC (.str "none")) (vaCons (vC (.str "number")) vaNil)))) vaNil))) vaNil)))) (tSet 0)) (vRet (vNew (v2 (v1 (vVar 0) vListOf) (v1 (vLst (vaCons (vTup (vaCons (vC (.str "alike")) (vaCons (vNew (vLst (vaCons (vC (.str "none")) (vaCons (vC (.str "number")) (vaCons (vC (.str "whence")) vaNil))))) vaNil))) (vaCons (vTup (vaCons (vC (.str "stale")) (vaCons (vNew (vLst (vaCons (vC (.str "none")) (vaCons (vC (.str "let")) vaNil)))) vaNil))) vaNil))) vId) vCat))))
def p__law_words : List U → ExK → (U → Prop) → Prop := vFn 1 0 pb__law_words
theorem l__law_words : LF KK 0 m__law_words p__law_words := (lf_fn (mb := b__law_words) (pb := pb__law_words)
    (ls_seq (own1 := []) (ls_asg (le_new (le_lst (le_acons (le_tup (le_acons (le_c _) (le_acons (le_new (le_lst (le_acons (le_c _) (le_acons (le_c _) (le_acons (le_c _) le_anil))))) le_anil))) (le_acons (le_tup (le_acons (le_c _) (le_acons (le_new (le_lst (le_acons (le_c _) (le_acons (le_c _) le_anil)))) le_anil))) le_anil)))) (lt_set 0))
    (ls_ret (le_new (le_2 (le_tour (le_var 0)) (le_tnew (le_lst (le_acons (le_tup (le_acons (le_c _) (le_acons (le_new (le_lst (le_acons (le_c _) (le_acons (le_c _) (le_acons (le_c _) le_anil))))) le_anil))) (le_acons (le_tup (le_acons (le_c _) (le_acons (le_new (le_lst (le_acons (le_c _) (le_acons (le_c _) le_anil)))) le_anil))) le_anil)))) lo_cat))))).weak (by decide +kernel)
def pb__law_all_rules : VS := (vSeq (vAsg [] (vNew (vLst (vaCons (vTup vaNil) vaNil))) (tSet 0)) (vSeq (vFor [] (v1 (vCal vaNil p__law_words) vSeqOf) (tTup 2 (tCons (tSet 1) (tCons (tSet 2) tNil))) (vSeq (vAsgN [] (vNew (vLst vaNil)) 3) (vSeq (vFor [3] (v1 (vVar 0) vSeqOf) (tSet 4) (vMtS [3] 3 (vaCons (vNew (vLc (v1 (vVar 2) vSeqOf) (tSet 5) vYes (v2 (vVar 4) (vTup (vaCons (vVar 5) vaNil)) vAdd) [5])) vaNil) vExtend)) (vAsg [] (vVar 3) (tSet 0))))) (vRet (vVar 0))))
def p__law_all_rules : List U → ExK → (U → Prop) → Prop := vFn 6 0 pb__law_all_rules
theorem l__law_all_rules : LF KK 0 m__law_all_rules p__law_all_rules := (lf_fn (mb := b__law_all_rules) (pb := pb__law_all_rules)
    (ls_seq (own1 := []) (ls_asg (le_new (le_lst (le_acons (le_tup le_anil) le_anil))) (lt_set 0))
    (ls_seq (own1 := []) (ls_for (le_1 (le_call0 l__law_words) lo_ival) (lt_tup (lt_cons (lt_set 1) (lt_cons (lt_set 2) lt_nil))) (ls_seq (own1 := [3]) (ls_new (own' := [3]) (ln_new (le_lst le_anil)))
    (ls_seq (own1 := [3]) (ls_for (le_1 (le_var 0) lo_ival) (lt_set 4) (ls_mt (le_acons (le_new (le_lc (le_1 (le_var 2) lo_ival) (lt_set 5) le_yes (le_2 (le_var 4) (le_tup (le_acons (le_var 5) le_anil)) lo_add))) le_anil) lm_extend))
    (ls_free (own1 := []) (ls_asg (le_var 3) (lt_set 0))))))
    (ls_ret (le_var 0))))).weak (by decide +kernel)
def pb_Rule___init__ : VS := (vSeq (vFor [0] (v2 (vC c_FIELDS) (vTup (vaCons (vVar 1) (vaCons (vVar 2) (vaCons (vVar 3) (vaCons (vVar 4) vaNil))))) (vZip true)) (tTup 2 (tCons (tSet 5) (tCons (tSet 6) tNil))) (vIfS (vOr (vNot (v1 (v1 (vaCons (vVar 6) (vaCons (vC (.cst (.ty "str"))) vaNil)) vIsi) vTruth)) (v2 (vVar 6) (v1 (vVar 5) (vCD c_WORDS)) vNotIn)) (vRaise "NoRule" "field" (vaCons (vVar 5) vaNil)) vSkip)) (vSeq (vFldS clss [0] 0 "cast" (vVar 1)) (vSeq (vFldS clss [0] 0 "order" (vVar 2)) (vSeq (vFldS clss [0] 0 "alike" (vVar 3)) (vFldS clss [0] 0 "stale" (vVar 4))))))
def p_Rule___init__ : List U → ExK → (U → Prop) → Prop := vMkI "Rule" 7 5 pb_Rule___init__
theorem l_Rule___init__ : LMk KK 0 "Rule" m_Rule___init__ p_Rule___init__ := lmk_fn (mb := b_Rule___init__) (pb := pb_Rule___init__)
    (ls_drop (ls_seq (own1 := [0]) (ls_for (le_2 (le_c _) (le_tup (le_acons (le_var 1) (le_acons (le_var 2) (le_acons (le_var 3) (le_acons (le_var 4) le_anil))))) (lo_zip true)) (lt_tup (lt_cons (lt_set 5) (lt_cons (lt_set 6) lt_nil))) (ls_if (le_or (le_not (le_1 (le_1 (le_acons (le_var 6) (le_acons (le_c _) le_anil)) lo_isi) lo_truth)) (le_2 (le_var 6) (le_1 (le_var 5) lo_cd) lo_notIn)) (ls_raise (le_acons (le_var 5) le_anil)) ls_skip))
    (ls_seq (own1 := [0]) (ls_fld (le_var 1))
    (ls_seq (own1 := [0]) (ls_fld (le_var 2))
    (ls_seq (own1 := [0]) (ls_fld (le_var 3))
    (ls_fld (le_var 4)))))))
    (k0_seq (k0_for (t0_tup (t0_cons (t0_set 5) (t0_cons (t0_set 6) t0_nil))) (k0_if k0_raise k0_skip)) (k0_seq k0_fld (k0_seq k0_fld (k0_seq k0_fld k0_fld))))
def pb__law_rule : VS := (vRet (vCal2 vaNil (vaCons (v2 (vVar 0) (vC (.int 0)) vIx) (vaCons (v2 (vVar 0) (vC (.int 1)) vIx) (vaCons (v2 (vVar 0) (vC (.int 2)) vIx) (vaCons (v2 (vVar 0) (vC (.int 3)) vIx) vaNil)))) fun us ws => p_Rule___init__ (pick [0, 1, 2, 3] us ws)))
def p__law_rule : List U → ExK → (U → Prop) → Prop := vFn 1 1 pb__law_rule
theorem l__law_rule : LF KK 0 m__law_rule p__law_rule := (lf_fn (mb := b__law_rule) (pb := pb__law_rule)
    (ls_ret (le_mk [0, 1, 2, 3] le_anil (le_acons (le_2 (le_var 0) (le_c _) lo_ix) (le_acons (le_2 (le_var 0) (le_c _) lo_ix) (le_acons (le_2 (le_var 0) (le_c _) lo_ix) (le_acons (le_2 (le_var 0) (le_c _) lo_ix) le_anil)))) l_Rule___init__))).weak (by decide +kernel)
def pb__law_due : VS := (vRet (vB (v1 (vLc (v2 (vVar 0) (vVar 1) (vZip false)) (tTup 2 (tCons (tSet 2) (tCons (tSet 3) tNil))) (v2 (vVar 2) (vTup (vaCons (vC (.str "none")) (vaCons (vVar 3) vaNil))) vNotIn) (vC (.int 1)) [2, 3]) (vNil false))))
def p__law_due : List U → ExK → (U → Prop) → Prop := vFn 4 2 pb__law_due
theorem l__law_due : LF KK 0 m__law_due p__law_due := (lf_fn (mb := b__law_due) (pb := pb__law_due)
    (ls_ret (le_B (le_nil (le_lc (le_2 (le_var 0) (le_var 1) (lo_zip false)) (lt_tup (lt_cons (lt_set 2) (lt_cons (lt_set 3) lt_nil))) (le_2 (le_var 2) (le_tup (le_acons (le_c _) (le_acons (le_var 3) le_anil))) lo_notIn) (le_c _)))))).weak (by decide +kernel)
def pb_Rule___eq__ : VS := (vSeq (vIfS (vNot (v1 (v1 (vaCons (vVar 1) (vaCons (vC (.glo "Rule")) vaNil)) (vIsiO isos)) vTruth)) (vRet (vC (.bl false))) vSkip) (vSeq (vAsg [] (vTup (vaCons (v1 (vVar 0) (vFldC clss "cast")) (vaCons (v1 (vVar 0) (vFldC clss "order")) (vaCons (v1 (vVar 0) (vFldC clss "alike")) (vaCons (v1 (vVar 0) (vFldC clss "stale")) vaNil))))) (tSet 2)) (vRet (vB (v2 (vVar 2) (vTup (vaCons (v1 (vVar 1) (vFldC clss "cast")) (vaCons (v1 (vVar 1) (vFldC clss "order")) (vaCons (v1 (vVar 1) (vFldC clss "alike")) (vaCons (v1 (vVar 1) (vFldC clss "stale")) vaNil))))) vEq)))))
def p_Rule___eq__ : List U → ExK → (U → Prop) → Prop := vFn 3 2 pb_Rule___eq__
theorem l_Rule___eq__ : LF KK 0 m_Rule___eq__ p_Rule___eq__ := (lf_fn (mb := b_Rule___eq__) (pb := pb_Rule___eq__)
    (ls_seq (own1 := []) (ls_if (le_not (le_1 (le_1 (le_acons (le_var 1) (le_acons (le_c _) le_anil)) lo_isiO) lo_truth)) (ls_ret (le_c _)) ls_skip)
    (ls_seq (own1 := []) (ls_asg (le_tup (le_acons (le_1 (le_var 0) lo_fld) (le_acons (le_1 (le_var 0) lo_fld) (le_acons (le_1 (le_var 0) lo_fld) (le_acons (le_1 (le_var 0) lo_fld) le_anil))))) (lt_set 2))
    (ls_ret (le_B (le_2 (le_var 2) (le_tup (le_acons (le_1 (le_var 1) lo_fld) (le_acons (le_1 (le_var 1) lo_fld) (le_acons (le_1 (le_var 1) lo_fld) (le_acons (le_1 (le_var 1) lo_fld) le_anil))))) lo_eq)))))).weak (by decide +kernel)
def pb_Rule_four_words : VS := (vRet (vTup (vaCons (v1 (vVar 0) (vFldC clss "cast")) (vaCons (v1 (vVar 0) (vFldC clss "order")) (vaCons (v1 (vVar 0) (vFldC clss "alike")) (vaCons (v1 (vVar 0) (vFldC clss "stale")) vaNil))))))
def p_Rule_four_words : List U → ExK → (U → Prop) → Prop := vFn 1 1 pb_Rule_four_words
theorem l_Rule_four_words : LF KK 0 m_Rule_four_words p_Rule_four_words := (lf_fn (mb := b_Rule_four_words) (pb := pb_Rule_four_words)
    (ls_ret (le_tup (le_acons (le_1 (le_var 0) lo_fld) (le_acons (le_1 (le_var 0) lo_fld) (le_acons (le_1 (le_var 0) lo_fld) (le_acons (le_1 (le_var 0) lo_fld) le_anil))))))).weak (by decide +kernel)
def pb_Rule_lets_no_more : VS := (vSeq (vAsg [] (vNew (v2 (vMeth "four_words" [("Rule", p_Rule_four_words)] (fun us ws => pick [0] us ws) (vVar 0) vaNil vaNil) (vMeth "four_words" [("Rule", p_Rule_four_words)] (fun us ws => pick [0] us ws) (vVar 1) vaNil vaNil) (vZip true))) (tSet 2)) (vRet (v1 (vLc (v1 (vVar 2) vSeqOf) (tTup 2 (tCons (tSet 3) (tCons (tSet 4) tNil))) vYes (vB (v2 (vVar 3) (vTup (vaCons (vC c_NONE) (vaCons (vVar 4) vaNil))) vIn)) [3, 4]) vAll)))
def p_Rule_lets_no_more : List U → ExK → (U → Prop) → Prop := vFn 5 2 pb_Rule_lets_no_more
theorem l_Rule_lets_no_more : LF KK 0 m_Rule_lets_no_more p_Rule_lets_no_more := (lf_fn (mb := b_Rule_lets_no_more) (pb := pb_Rule_lets_no_more)
    (ls_seq (own1 := []) (ls_asg (le_new (le_2 (le_meth (le_var 0) le_anil le_anil (.cons l_Rule_four_words TabR.nil) (gr_pick [0])) (le_meth (le_var 1) le_anil le_anil (.cons l_Rule_four_words TabR.nil) (gr_pick [0])) lo_lzip)) (lt_set 2))
    (ls_ret (le_1 (le_lc (le_1 (le_var 2) lo_ival) (lt_tup (lt_cons (lt_set 3) (lt_cons (lt_set 4) lt_nil))) le_yes (le_B (le_2 (le_var 3) (le_tup (le_acons (le_c _) (le_acons (le_var 4) le_anil))) lo_in))) lo_all)))).weak (by decide +kernel)
def pb_Rule___str__ : VS := (vRet (v2 (v2 (v2 (v2 (v2 (v2 (v2 (vC (.str Str.empty)) (v1 (vVar 0) (vFldC clss "cast")) vJ) (vC (.str " ")) vJ) (v1 (vVar 0) (vFldC clss "order")) vJ) (vC (.str " ")) vJ) (v1 (vVar 0) (vFldC clss "alike")) vJ) (vC (.str " ")) vJ) (v1 (vVar 0) (vFldC clss "stale")) vJ))
def p_Rule___str__ : List U → ExK → (U → Prop) → Prop := vFn 1 1 pb_Rule___str__
theorem l_Rule___str__ : LF KK 0 m_Rule___str__ p_Rule___str__ := (lf_fn (mb := b_Rule___str__) (pb := pb_Rule___str__)
    (ls_ret (le_2 (le_2 (le_2 (le_2 (le_2 (le_2 (le_2 (le_c _) (le_1 (le_var 0) lo_fld) lo_J) (le_c _) lo_J) (le_1 (le_var 0) lo_fld) lo_J) (le_c _) lo_J) (le_1 (le_var 0) lo_fld) lo_J) (le_c _) lo_J) (le_1 (le_var 0) lo_fld) lo_J))).weak (by decide +kernel)
def qb_law : VQ := (qSeq (qAsg (zE (vCal vaNil p__law_all_rules)) (tSet 2)) (qSeq (qAsg (zNewS (zE (v1 (vC (.int 36)) vRange1))) (tSet 3)) (qSeq (qAsg (zNew (zLc (zE (v1 (vC (.int 36)) vIR1)) (tSet 7) (zE vYes) (zMt (zE (vVar 3)) (zaCons (zCal (zaCons (zE (vVar 1)) (zaCons (z1 (zE (vaCons (vVar 3) vaNil)) zLenA) zaNil)) (zO1 p__law_draw)) zaNil) vPop) [7])) (tSet 4)) (qSeq (qAsg (zE (vNew (vLc (v1 (vVar 2) vSeqOf) (tSet 10) vYes (vCal (vaCons (vVar 10) vaNil) p__law_rule) [10]))) (tSet 5)) (qSeq (qAsg zDnewT (tSet 6)) (qSeq (qFor (zE (v1 (vVar 4) vSeqOf)) (tSet 7) (qFor (zE (v1 (v1 (v1 (vVar 4) vListOf) vRevL) vId)) (tSet 9) (qSeq (qAsg (zE (vNew (vLst (vaCons (vMeth "lets_no_more" [("Rule", p_Rule_lets_no_more)] (fun us ws => pick [0, 1] us ws) (v2 (vVar 5) (vVar 7) vIx) (vaCons (v2 (vVar 5) (vVar 9) vIx) vaNil) vaNil) (vaCons (vMeth "lets_no_more" [("Rule", p_Rule_lets_no_more)] (fun us ws => pick [0, 1] us ws) (v2 (vVar 5) (vVar 7) vIx) vaNil (vaCons (v2 (vVar 5) (vVar 9) vIx) vaNil)) vaNil))))) (tSet 11)) (qSeq (qIf (zE (v2 (v1 (vaCons (vVar 11) vaNil) vRepr) (v1 (v2 (v1 (vLst (vaCons (vCal (vaCons (v2 (vVar 2) (vVar 7) vIx) (vaCons (v2 (vVar 2) (vVar 9) vIx) vaNil)) p__law_due) vaNil)) vId) (vC (.int 2)) vRep) vLRepr) vNe)) (qRet (zE (vC (.bl false)))) qSkip) (qPutT (zE (vaCons (vVar 7) (vaCons (vVar 9) vaNil))) (zE (vVar 6)) (zE (v2 (vVar 11) (vC (.int 0)) vIx))))))) (qSeq (qForB (zE (v1 (vC (.int 200)) vIR1)) (tSet 8) (qSeq (qPar3 12 13 14 (zE (vaCons (v1 (vaCons (vVar 1) (vaCons (vC (.int 36)) vaNil)) p__law_draw) (vaCons (v1 (vaCons (vVar 1) (vaCons (vC (.int 36)) vaNil)) p__law_draw) (vaCons (v1 (vaCons (vVar 1) (vaCons (vC (.int 36)) vaNil)) p__law_draw) vaNil))))) (qSeq (qIf (zAnd (z1 (z2 (zE (vVar 6)) (zE (vaCons (vVar 12) (vaCons (vVar 13) vaNil))) zGetT) zTruth) (zAnd (z1 (z2 (zE (vVar 6)) (zE (vaCons (vVar 13) (vaCons (vVar 14) vaNil))) zGetT) zTruth) (zNot (z1 (z2 (zE (vVar 6)) (zE (vaCons (vVar 12) (vaCons (vVar 14) vaNil))) zGetT) zTruth)))) (qRet (zE (vC (.bl false)))) qSkip) (qIf (zOr (zNot (z1 (z2 (zE (vVar 6)) (zE (vaCons (vVar 12) (vaCons (vVar 12) vaNil))) zGetT) zTruth)) (zOr (zNot (z1 (z2 (zE (vVar 6)) (zE (vaCons (vC (.int 0)) (vaCons (vVar 12) vaNil))) zGetT) zTruth)) (zE (v2 (v2 (vVar 5) (vVar 12) vIx) (vCal (vaCons (v2 (vVar 2) (vVar 12) vIx) vaNil) p__law_rule) (vEqM [("Rule", p_Rule___eq__)] true))))) (qRet (zE (vC (.bl false)))) qSkip)))) (qRet (zE (vEAnd (vB (v2 (v2 (vVar 2) (vC (.int 0)) vIx) (v2 (vTup (vaCons (vC (.str "none")) vaNil)) (vC (.int 4)) vMul) vEq)) (vB (v1 (vLc (v1 (vC (.int 36)) vIR1) (tSet 7) (v2 (v1 (vaCons (v2 (vVar 5) (vVar 7) vIx) vaNil) (vStrM [("Rule", p_Rule___str__)])) (vMs (vC (.str " ")) (vaCons (v2 (vVar 2) (vVar 7) vIx) vaNil) vJoin) vNe) (vVar 7) [7]) (vNil false)))))))))))))
def rest_law : SM := (sSeq (sAsg (fun _ ah => m__law_all_rules [] ah) (gSet 2)) (sSeq (sAsg (eNew (e1 (eC (.int 36)) lRange1)) (gSet 3)) (sSeq (sAsg (eNew (lLc (e1 (eC (.int 36)) iRange1) (gSet 7) bYes (eMt (eVar 3) (aCons (e1 (aCons (eVar 1) (aCons (e1 (aCons (eVar 3) aNil) oLenA) aNil)) m__law_draw) aNil) mPop) [7])) (gSet 4)) (sSeq (sAsg (eNew (lLc (e1 (eVar 2) iVal) (gSet 10) bYes (e1 (aCons (eVar 10) aNil) m__law_rule) [10])) (gSet 5)) (sSeq (sAsg eDnewT (gSet 6)) (sSeq (sFor (e1 (eVar 4) iVal) (gSet 7) (sFor (iNew (e1 (e1 (eVar 4) HA.listOf) lRevL)) (gSet 9) (sSeq (sAsg (eNew (lLst (aCons (eMeth "lets_no_more" [("Rule", m_Rule_lets_no_more)] (fun ds fs => pick [0, 1] ds fs) (e2 (eVar 5) (eVar 7) oIx) (aCons (e2 (eVar 5) (eVar 9) oIx) aNil) aNil) (aCons (eMeth "lets_no_more" [("Rule", m_Rule_lets_no_more)] (fun ds fs => pick [0, 1] ds fs) (e2 (eVar 5) (eVar 7) oIx) aNil (aCons (e2 (eVar 5) (eVar 9) oIx) aNil)) aNil)))) (gSet 11)) (sSeq (sIf (e2 (e1 (aCons (eVar 11) aNil) oRepr) (e1 (e2 (tNew (lLst (aCons (e1 (aCons (e2 (eVar 2) (eVar 7) oIx) (aCons (e2 (eVar 2) (eVar 9) oIx) aNil)) m__law_due) aNil))) (eC (.int 2)) lRep) lRepr) cNe) (sRet (eC (.bl false))) sSkip) (sPutT (eVar 6) (aCons (eVar 7) (aCons (eVar 9) aNil)) (e2 (eVar 11) (eC (.int 0)) oIx)))))) (sSeq (sFor (e1 (eC (.int 200)) iRange1) (gSet 8) (sSeq (sPar3 12 13 14 (aCons (e1 (aCons (eVar 1) (aCons (eC (.int 36)) aNil)) m__law_draw) (aCons (e1 (aCons (eVar 1) (aCons (eC (.int 36)) aNil)) m__law_draw) (aCons (e1 (aCons (eVar 1) (aCons (eC (.int 36)) aNil)) m__law_draw) aNil)))) (sSeq (sIf (bAnd (e1 (e2 (eVar 6) (aCons (eVar 12) (aCons (eVar 13) aNil)) oGetT) truth) (bAnd (e1 (e2 (eVar 6) (aCons (eVar 13) (aCons (eVar 14) aNil)) oGetT) truth) (bNot (e1 (e2 (eVar 6) (aCons (eVar 12) (aCons (eVar 14) aNil)) oGetT) truth)))) (sRet (eC (.bl false))) sSkip) (sIf (bOr (bNot (e1 (e2 (eVar 6) (aCons (eVar 12) (aCons (eVar 12) aNil)) oGetT) truth)) (bOr (bNot (e1 (e2 (eVar 6) (aCons (eC (.int 0)) (aCons (eVar 12) aNil)) oGetT) truth)) (e2 (e2 (eVar 5) (eVar 12) oIx) (e1 (aCons (e2 (eVar 2) (eVar 12) oIx) aNil) m__law_rule) (cEqM [("Rule", m_Rule___eq__)] true)))) (sRet (eC (.bl false))) sSkip)))) (sRet (eAnd (eB (e2 (e2 (eVar 2) (eC (.int 0)) oIx) (e2 (eTup (aCons (eC (.str "none")) aNil)) (eC (.int 4)) oMulT) cEq)) (eB (bNil false (lLc (e1 (eC (.int 36)) iRange1) (gSet 7) (e2 (e1 (aCons (e2 (eVar 5) (eVar 7) oIx) aNil) (oStrM [("Rule", m_Rule___str__)])) (eMs (eC (.str " ")) (aCons (e2 (eVar 2) (eVar 7) oIx) aNil) mJoin) cNe) (eVar 7) [7]))))))))))))
theorem ss_law : SS KK 28 rest_law qb_law := by
  unfold rest_law qb_law
  exact (ss_seq (ss_asg (se_le (le_call0 l__law_all_rules)) (lt_set 2))
    (ss_seq (ss_asg (se_newS (se_le (le_1 (le_c _) lo_lrange1))) (lt_set 3))
    (ss_seq (ss_asg (se_new (se_lc (se_le (le_1 (le_c _) lo_irange1)) (lt_set 7) (se_le le_yes) (se_mt (se_le (le_var 3)) (se_acons (se_1 (se_acons (se_le (le_var 1)) (se_acons (se_1 (se_le (le_acons (le_var 3) le_anil)) so_len) se_anil)) (sf_lf l__law_draw)) se_anil) lm_pop))) (lt_set 4))
    (ss_seq (ss_asg (se_le (le_new (le_lc (le_1 (le_var 2) lo_ival) (lt_set 10) le_yes (le_1 (le_acons (le_var 10) le_anil) l__law_rule)))) (lt_set 5))
    (ss_seq (ss_asg se_dnewT (lt_set 6))
    (ss_seq (ss_for (se_le (le_1 (le_var 4) lo_ival)) (lt_set 7) (ss_for (se_le (le_inew (le_1 (le_1 (le_var 4) lo_listOf) lo_revL))) (lt_set 9) (ss_seq (ss_asg (se_le (le_new (le_lst (le_acons (le_meth (le_2 (le_var 5) (le_var 7) lo_ix) (le_acons (le_2 (le_var 5) (le_var 9) lo_ix) le_anil) le_anil (.cons l_Rule_lets_no_more TabR.nil) (gr_pick [0, 1])) (le_acons (le_meth (le_2 (le_var 5) (le_var 7) lo_ix) le_anil (le_acons (le_2 (le_var 5) (le_var 9) lo_ix) le_anil) (.cons l_Rule_lets_no_more TabR.nil) (gr_pick [0, 1])) le_anil))))) (lt_set 11))
    (ss_seq (ss_if (se_le (le_2 (le_1 (le_acons (le_var 11) le_anil) lo_repr) (le_1 (le_2 (le_tnew (le_lst (le_acons (le_1 (le_acons (le_2 (le_var 2) (le_var 7) lo_ix) (le_acons (le_2 (le_var 2) (le_var 9) lo_ix) le_anil)) l__law_due) le_anil))) (le_c _) lo_rep) lo_lrepr) lo_ne)) (ss_ret (se_le (le_c _))) ss_skip)
    (ss_putT (se_le (le_2 (le_var 11) (le_c _) lo_ix)) (se_le (le_var 6)) (se_le (le_acons (le_var 7) (le_acons (le_var 9) le_anil))))))))
    (ss_seq (ss_forB (se_le (le_1 (le_c _) lo_irange1)) (lt_set 8) (ss_seq (ss_par3 (se_le (le_acons (le_1 (le_acons (le_var 1) (le_acons (le_c _) le_anil)) l__law_draw) (le_acons (le_1 (le_acons (le_var 1) (le_acons (le_c _) le_anil)) l__law_draw) (le_acons (le_1 (le_acons (le_var 1) (le_acons (le_c _) le_anil)) l__law_draw) le_anil)))))
    (ss_seq (ss_if (se_and (se_1 (se_2 (se_le (le_var 6)) (se_le (le_acons (le_var 12) (le_acons (le_var 13) le_anil))) so_getT) so_truth) (se_and (se_1 (se_2 (se_le (le_var 6)) (se_le (le_acons (le_var 13) (le_acons (le_var 14) le_anil))) so_getT) so_truth) (se_not (se_1 (se_2 (se_le (le_var 6)) (se_le (le_acons (le_var 12) (le_acons (le_var 14) le_anil))) so_getT) so_truth)))) (ss_ret (se_le (le_c _))) ss_skip)
    (ss_if (se_or (se_not (se_1 (se_2 (se_le (le_var 6)) (se_le (le_acons (le_var 12) (le_acons (le_var 12) le_anil))) so_getT) so_truth)) (se_or (se_not (se_1 (se_2 (se_le (le_var 6)) (se_le (le_acons (le_c _) (le_acons (le_var 12) le_anil))) so_getT) so_truth)) (se_le (le_eqM (le_2 (le_var 5) (le_var 12) lo_ix) (le_1 (le_acons (le_2 (le_var 2) (le_var 12) lo_ix) le_anil) l__law_rule) (.cons l_Rule___eq__ .nil))))) (ss_ret (se_le (le_c _))) ss_skip))))
    (ss_ret (se_le (le_eand (le_B (le_2 (le_2 (le_var 2) (le_c _) lo_ix) (le_2 (le_tup (le_acons (le_c _) le_anil)) (le_c _) lo_mulT) lo_eq)) (le_B (le_nil (le_lc (le_1 (le_c _) lo_irange1) (lt_set 7) (le_2 (le_strM (le_acons (le_2 (le_var 5) (le_var 7) lo_ix) le_anil) (.cons l_Rule___str__ .nil)) (le_ms (le_c _) (le_acons (le_2 (le_var 2) (le_var 7) lo_ix) le_anil) lo_join) lo_ne) (le_var 7))))))))))))))
theorem law_eq : m_law = fnR 15 1 (sSeq (sAsg (e1 (aCons (eVar 0) aNil) m__law_deck) (gSet 1)) rest_law) := rfl
theorem law_link {ns : List Int} (hl : ns.length ≤ 63) (x : qb_law (none :: some (.ref 2) :: List.replicate 13 none) TrueZ sto0) : ∃ ah', m_law [.ref 0] (ah0 ns) = .ok (.bl true) ah' :=
  by rw [law_eq]; exact law_Z (K := KK) (n := 13) (c := 28) (rest := rest_law) (pr := qb_law) (md := m__law_deck) (deck_A hl) ⟨dkA ns, _, [], rfl, dkA_ok hl⟩ ss_law (by decide +kernel) x
end HL
namespace HL
open PySem PySem.Spec PyProof.Rows L2 HA HV
inductive Cast where
  | none | shown | any
deriving DecidableEq
def Cast.n : Cast → String
  | .none => "none"
  | .shown => "shown"
  | .any => "any"
inductive Alike where
  | none | number | whence
deriving DecidableEq
def Alike.n : Alike → String
  | .none => "none"
  | .number => "number"
  | .whence => "whence"
structure Rl4 where
  cast : Cast
  order : Bool
  alike : Alike
  stale : Bool
deriving DecidableEq
def ordN : Bool → String
  | true => "number"
  | false => "none"
def stlN : Bool → String
  | true => "let"
  | false => "none"
def Rl4.us (r : Rl4) : List U := [.str (Str.ofString r.cast.n), .str (Str.ofString (ordN r.order)), .str (Str.ofString r.alike.n), .str (Str.ofString (stlN r.stale))]
def Rl4.t (r : Rl4) : U := .tup r.us
def Rl4.I (r : Rl4) : U := .ins "Rule" ["cast", "order", "alike", "stale"] r.us
def leC (a b : Cast) : Bool := decide (a = .none) || decide (a = b)
def leB (a b : Bool) : Bool := !a || b
def leA (a b : Alike) : Bool := decide (a = .none) || decide (a = b)
def lets (q r : Rl4) : Bool := leC q.cast r.cast && (leB q.order r.order && (leA q.alike r.alike && leB q.stale r.stale))
def allR : List Rl4 := [Cast.none, Cast.shown, Cast.any].flatMap fun c => [false, true].flatMap fun o => [Alike.none, Alike.number, Alike.whence].flatMap fun a => [false, true].map fun s => ⟨c, o, a, s⟩
theorem allR_all (q : Rl4) : q ∈ allR := by
  obtain ⟨c, o, a, s⟩ := q
  cases c <;> cases o <;> cases a <;> cases s <;> decide
theorem in_c (a b : Cast) : (decide (a.n = "none") || decide (a.n = b.n)) = leC a b := by cases a <;> cases b <;> decide
theorem in_o (a b : Bool) : (decide (ordN a = "none") || decide (ordN a = ordN b)) = leB a b := by cases a <;> cases b <;> decide
theorem in_a (a b : Alike) : (decide (a.n = "none") || decide (a.n = b.n)) = leA a b := by cases a <;> cases b <;> decide
theorem in_s (a b : Bool) : (decide (stlN a = "none") || decide (stlN a = stlN b)) = leB a b := by cases a <;> cases b <;> decide
theorem pick_nl {α : Type} (us ws : List α) : pick [] us ws = [] := rfl
section
variable (X : ExK) (k : U → Prop)
theorem fld_cast (q : Rl4) : vFldC clss (Str.ofString "cast") q.I X k = k (.str (Str.ofString q.cast.n)) :=
  vFldC_def _ _ clss _ _ _ _ ["cast", "order", "alike", "stale"] _ (by decide +kernel) (by decide +kernel) rfl
theorem fld_order (q : Rl4) : vFldC clss (Str.ofString "order") q.I X k = k (.str (Str.ofString (ordN q.order))) :=
  vFldC_def _ _ clss _ _ _ _ ["cast", "order", "alike", "stale"] _ (by decide +kernel) (by decide +kernel) rfl
theorem fld_alike (q : Rl4) : vFldC clss (Str.ofString "alike") q.I X k = k (.str (Str.ofString q.alike.n)) :=
  vFldC_def _ _ clss _ _ _ _ ["cast", "order", "alike", "stale"] _ (by decide +kernel) (by decide +kernel) rfl
theorem fld_stale (q : Rl4) : vFldC clss (Str.ofString "stale") q.I X k = k (.str (Str.ofString (stlN q.stale))) :=
  vFldC_def _ _ clss _ _ _ _ ["cast", "order", "alike", "stale"] _ (by decide +kernel) (by decide +kernel) rfl
theorem q_rule (q : Rl4) : p_Rule___init__ [.str (Str.ofString q.cast.n), .str (Str.ofString (ordN q.order)), .str (Str.ofString q.alike.n), .str (Str.ofString (stlN q.stale))] X k = k q.I := by
  have hc : q.cast.n ∈ ["none", "shown", "any"] := by cases q.cast <;> decide
  have ho : ordN q.order ∈ ["none", "number"] := by cases q.order <;> decide
  have ha : q.alike.n ∈ ["none", "number", "whence"] := by cases q.alike <;> decide
  have hs : stlN q.stale ∈ ["none", "let"] := by cases q.stale <;> decide
  have e1 : hasF clss (Str.ofString "Rule") (Str.ofString "cast") = true := by decide +kernel
  have e2 : hasF clss (Str.ofString "Rule") (Str.ofString "order") = true := by decide +kernel
  have e3 : hasF clss (Str.ofString "Rule") (Str.ofString "alike") = true := by decide +kernel
  have e4 : hasF clss (Str.ofString "Rule") (Str.ofString "stale") = true := by decide +kernel
  simp -dsimp [p_Rule___init__, pb_Rule___init__, Rl4.I, Rl4.us, cal, c_FIELDS, zipU, forL_cons, forL_nil, c_WORDS, look_cons, vIn_s2, vIn_s3, hc, ho, ha, hs, e1, e2, e3, e4, HV.putK, putV, ofS_inj]
theorem q_four (q : Rl4) : p_Rule_four_words [q.I] X k = k q.t := by
  simp -dsimp [p_Rule_four_words, pb_Rule_four_words, fld_cast, fld_order, fld_alike, fld_stale, Rl4.t, Rl4.us]
theorem q_lets (q r : Rl4) : p_Rule_lets_no_more [q.I, r.I] X k = k (.bl (lets q r)) := by
  have F := fun X k => q_four X k q
  have G := fun X k => q_four X k r
  have J : ∀ (q : Rl4) f d, mtK "four_words" [("Rule", p_Rule_four_words)] q.I f d = f p_Rule_four_words := fun q f d => by
    rw [show q.I = U.ins "Rule" ["cast", "order", "alike", "stale"] q.us from rfl, mtK_ins]
    exact propext ⟨fun h => h.2, fun h => ⟨by simp [Rl4.us, look_cons, ofS_inj], h⟩⟩
  simp -dsimp [p_Rule_lets_no_more, pb_Rule_lets_no_more, cal, F, G, J, pick_go, pick_nl, pick_e]
  simp -dsimp [Rl4.t, Rl4.us, zipU, lcL_cons, lcL_nil, c_NONE, vIn_s2, in_c, in_o, in_a, in_s]
  have E : ∀ (a b c d : Bool) (X : ExK) (k : U → Prop), vAll [.bl a, .bl b, .bl c, .bl d] X k = k (.bl (a && (b && (c && d)))) := fun a b c d X k => by
    rw [show [U.bl a, .bl b, .bl c, .bl d] = [a, b, c, d].map U.bl from rfl, vAll_bools]
    simp
  exact Iff.of_eq (E _ _ _ _ _ _)
end
end HL
namespace HL
open PySem PySem.Spec PyProof.Rows L2 HA HV PySem.StrLaws
def allT : List U := allR.map Rl4.t
def strR (q : Rl4) : Str := Str.empty ++ Str.ofString q.cast.n ++ Str.ofString " " ++ Str.ofString (ordN q.order) ++ Str.ofString " " ++ Str.ofString q.alike.n ++ Str.ofString " " ++ Str.ofString (stlN q.stale)
section
variable (X : ExK) (k : U → Prop)
theorem y_made (q : Rl4) : cal p__law_rule [q.t] X k () = k q.I := by
  simp -dsimp [p__law_rule, pb__law_rule, cal, Rl4.t, Rl4.us, pick_go, pick_nl, pick_e, q_rule]
theorem y_words : cal p__law_words [] X k () = k (.lst ([("cast", ["none", "shown", "any"]), ("order", ["none", "number"]), ("alike", ["none", "number", "whence"]), ("stale", ["none", "let"])].map fun p => .tup [.str (Str.ofString p.1), .lst (p.2.map fun w => .str (Str.ofString w))])) := by
  simp -dsimp [p__law_words, pb__law_words, cal]
theorem y_all : cal p__law_all_rules [] X k () = k (.lst allT) := by
  have W : ∀ (X : ExK) (k : U → Prop), p__law_words [] X k = _ := fun X k => y_words X k
  simp -dsimp [p__law_all_rules, pb__law_all_rules, cal, W, forL_cons, forL_nil, lcL_cons, lcL_nil]
  exact Iff.rfl
theorem y_due (q r : Rl4) : cal p__law_due [q.t, r.t] X k () = k (.bl (lets q r)) := by
  simp -dsimp [p__law_due, pb__law_due, cal, Rl4.t, Rl4.us, zipU, lcL_cons, lcL_nil, vIn_s2]
  have i1 : (q.cast.n = "none" ∨ q.cast.n = r.cast.n) ↔ leC q.cast r.cast = true := by rw [← in_c]; simp
  have i2 : (ordN q.order = "none" ∨ ordN q.order = ordN r.order) ↔ leB q.order r.order = true := by rw [← in_o]; simp
  have i3 : (q.alike.n = "none" ∨ q.alike.n = r.alike.n) ↔ leA q.alike r.alike = true := by rw [← in_a]; simp
  have i4 : (stlN q.stale = "none" ∨ stlN q.stale = stlN r.stale) ↔ leB q.stale r.stale = true := by rw [← in_s]; simp
  have nn : ∀ (u : U) (us : List U) (X : ExK) (kb : Bool → Prop), vNil false (u :: us) X kb = kb false := fun _ _ _ _ => rfl
  unfold lets
  simp only [i1, i2, i3, i4, nn]
  cases leC q.cast r.cast <;> cases leB q.order r.order <;> cases leA q.alike r.alike <;> cases leB q.stale r.stale <;> simp
theorem q_str (q : Rl4) : p_Rule___str__ [q.I] X k = k (.str (strR q)) := by
  have a1 : (Str.ofString q.cast.n).length ≤ 6 := by cases q.cast <;> decide +kernel
  have a2 : (Str.ofString (ordN q.order)).length ≤ 6 := by cases q.order <;> decide +kernel
  have a3 : (Str.ofString q.alike.n).length ≤ 6 := by cases q.alike <;> decide +kernel
  have a4 : (Str.ofString (stlN q.stale)).length ≤ 6 := by cases q.stale <;> decide +kernel
  have a5 : (Str.ofString " ").length = 1 := by decide +kernel
  have a6 : Str.empty.length = 0 := by decide +kernel
  simp -dsimp [p_Rule___str__, pb_Rule___str__, fld_cast, fld_order, fld_alike, fld_stale]
  refine ⟨fun h => h.2.2.2.2.2.2.2, fun h => ⟨⟨?_, ?_⟩, ⟨?_, ?_⟩, ⟨?_, ?_⟩, ⟨?_, ?_⟩, ⟨?_, ?_⟩, ⟨?_, ?_⟩, ⟨?_, ?_⟩, h⟩⟩ <;> first | omega | (simp only [strLen_append]; omega)
end
end HL
namespace HL
open PySem PySem.Spec PyProof.Rows L2 HA HV
theorem lcZ_cons (vt : VTM) (pe : VZ U) (Γ : UEnv) (u : U) (us : List U) (k : List U → MP) (d : Dm (zE vYes, pe, k)) (bs : List (Nat × U)) (hb : vt u = some bs) (σ : Sto) :
    lcZ vt (zE vYes) pe Γ (u :: us) k d σ = pe (setU Γ bs) XFz (fun y => lcZ vt (zE vYes) pe Γ us (fun ys => k (y :: ys)) ()) σ := by
  unfold lcZ
  rw [zLcL, hb]
  rfl
def mixE : VZ U := zMt (zE (vVar 3)) (zaCons (zCal (zaCons (zE (vVar 1)) (zaCons (z1 (zE (vaCons (vVar 3) vaNil)) zLenA) zaNil)) (zO1 p__law_draw)) zaNil) vPop
theorem vPop_at (us : List U) (v : Nat) (h : v < us.length) (h2 : us.length ≤ 1000) (k : U → U → Prop) : vPop (.lst us) [.int v] k = k us[v] (.lst (us.eraseIdx v)) := by
  have e : seqIndex? (v : Int) us.length = some v := by
    have a : (0 : Int) ≤ v := by omega
    have b : ¬ (v : Int) < 0 := by omega
    have c : (v : Int) < us.length := by omega
    simp [seqIndex?, b, c]
  have l : (v : Int) < 9223372036854775808 := by omega
  simp [vPop, e, List.getElem?_eq_getElem h, l]
theorem erase_map {α β : Type} (f : α → β) : ∀ (l : List α) (i : Nat), (l.map f).eraseIdx i = (l.eraseIdx i).map f
  | [], _ => rfl
  | _ :: _, 0 => rfl
  | x :: l, i + 1 => by
    show f x :: (l.map f).eraseIdx i = f x :: (l.eraseIdx i).map f
    rw [erase_map f l i]
theorem erase_pm {α : Type} : ∀ (l : List α) (i : Nat) (h : i < l.length), (l[i] :: l.eraseIdx i).Perm l
  | x :: l, 0, _ => List.Perm.refl _
  | x :: l, i + 1, h => by
    have h' : i < l.length := by simpa using h
    show (l[i] :: x :: l.eraseIdx i).Perm (x :: l)
    exact (List.Perm.swap x l[i] _).trans ((erase_pm l i h').cons x)
theorem mix {s : Nat} : ∀ (us : List U) (rem : List Int) (σ : Sto) (k : List U → MP) (d), us.length = rem.length → rem.length ≤ 36 → σ s = some (.lst (rem.map U.int)) →
    (∀ (out : List Int) (τ : Sto), out.Perm rem → (∀ x, x ≠ s → τ x = σ x) → k (out.map U.int) τ) → lcZ (tSet 7) (zE vYes) mixE [none, some (.ref 2), some (.lst allT), some (.ref s), none, none, none, none, none, none, none, none, none, none, none] us k d σ
  | [], rem, σ, k, d, hl, h36, hs, hk => by
    have e : rem = [] := List.length_eq_zero_iff.mp hl.symm
    subst e
    rw [lcZ_nil]
    exact hk [] σ (List.Perm.refl _) fun _ _ => rfl
  | u :: us, rem, σ, k, d, hl, h36, hs, hk => by
    rw [lcZ_cons _ _ _ _ _ _ _ _ rfl]
    have hl' : rem.length = us.length + 1 := hl.symm
    simp -dsimp [mixE, hs, lstS, p__law_draw, cal]
    refine ⟨⟨by omega, by omega⟩, fun v hv => ?_⟩
    rw [vPop_at _ v (by simpa using hv) (by simp; omega)]
    have e1 : (rem.map U.int)[v]'(by simpa using hv) = U.int rem[v] := by simp
    have e2 : (rem.map U.int).eraseIdx v = (rem.eraseIdx v).map U.int := erase_map _ _ _
    rw [e1, e2]
    have le : (rem.eraseIdx v).length = us.length := by rw [List.length_eraseIdx_of_lt hv]; omega
    refine mix us (rem.eraseIdx v) _ _ _ le.symm (by omega) updS_same fun out τ hp hf => ?_
    have p2 : (rem[v] :: out).Perm rem := (hp.cons _).trans (erase_pm rem v hv)
    have := hk (rem[v] :: out) τ p2 fun x hx => by rw [hf x hx, updS_ne hx]
    simpa using this
section
variable {κ : Type} [DecidableEq κ]
theorem uVal_any (kk : κ) : ∀ (ks : List κ) (us : List U), ks.length = us.length → (ks.any fun z => decide (z = kk)) = (uVal ks us kk).isSome
  | [], [], _ => by simp [uVal]
  | [], _ :: _, h => by simp at h
  | _ :: _, [], h => by simp at h
  | k :: ks, u :: us, h => by
    have ih := uVal_any kk ks us (by simpa using h)
    by_cases c : k = kk
    · simp [uVal, c]
    · simp [uVal, c, ih]
theorem uVal_upd (kk k : κ) (v : U) : ∀ (ks : List κ) (us : List U), ks.length = us.length → uVal ks ((ks.zip us).map fun p => if p.1 = kk then v else p.2) k = if k = kk then (uVal ks us k).map fun _ => v else uVal ks us k
  | [], [], _ => by simp [uVal]
  | [], _ :: _, h => by simp at h
  | _ :: _, [], h => by simp at h
  | z :: ks, u :: us, h => by
    have ih := uVal_upd kk k v ks us (by simpa using h)
    by_cases c : z = k
    · subst c
      by_cases d : z = kk
      · simp [uVal, d]
      · simp [uVal, d]
    · simp only [List.zip_cons_cons, List.map_cons, uVal, c, if_false]
      exact ih
theorem uVal_app (kk k : κ) (v : U) : ∀ (ks : List κ) (us : List U), ks.length = us.length → uVal (ks ++ [kk]) (us ++ [v]) k = match uVal ks us k with
    | some u => some u
    | none => if kk = k then some v else none
  | [], [], _ => by simp [uVal]
  | [], _ :: _, h => by simp at h
  | _ :: _, [], h => by simp at h
  | z :: ks, u :: us, h => by
    have ih := uVal_app kk k v ks us (by simpa using h)
    by_cases c : z = k
    · simp [uVal, c]
    · simp only [List.cons_append, uVal, c, if_false]
      exact ih
end
def rlA (i : Int) : Rl4 := allR.getD i.toNat ⟨.none, false, .none, false⟩
def kyA (a b : Int) : List Key := [.inl a, .inl b]
def Tab (ks : List (List Key)) (us : List U) (P : Int → Int → Prop) : Prop := ks.length = us.length ∧ ∀ a b, P a b → uVal ks us (kyA a b) = some (.bl (lets (rlA a) (rlA b)))
theorem Tab.put {ks : List (List Key)} {us : List U} {P : Int → Int → Prop} (h : Tab ks us P) (a b : Int) : ∃ ks' us', uPutT ks us (kyA a b) (.bl (lets (rlA a) (rlA b))) = .dT ks' us' ∧ ks'.length ≤ ks.length + 1 ∧ Tab ks' us' fun x y => P x y ∨ (x = a ∧ y = b) := by
  obtain ⟨hl, h⟩ := h
  have inj : ∀ x y : Int, kyA x y = kyA a b → x = a ∧ y = b := fun x y e => by
    simp only [kyA, List.cons.injEq, Sum.inl.injEq, and_true] at e
    exact e
  have an := uVal_any (kyA a b) ks us hl
  unfold uPutT
  split
  · rename_i c
    rw [an] at c
    refine ⟨_, _, rfl, by omega, by simp [hl], fun x y hp => ?_⟩
    rw [uVal_upd _ _ _ _ _ hl]
    by_cases d : kyA x y = kyA a b
    · obtain ⟨rfl, rfl⟩ := inj x y d
      rw [if_pos rfl]
      obtain ⟨u, e⟩ := Option.isSome_iff_exists.mp c
      rw [e]
      rfl
    · rw [if_neg d]
      rcases hp with hp | ⟨rfl, rfl⟩
      · exact h x y hp
      · exact absurd rfl d
  · rename_i c
    rw [an] at c
    refine ⟨_, _, rfl, by simp, by simp [hl], fun x y hp => ?_⟩
    rw [uVal_app _ _ _ _ _ hl]
    by_cases d : kyA x y = kyA a b
    · obtain ⟨rfl, rfl⟩ := inj x y d
      have e : uVal ks us (kyA x y) = none := by
        cases q : uVal ks us (kyA x y) with
        | none => rfl
        | some u => rw [q] at c; exact absurd rfl c
      rw [e]
      simp
    · rcases hp with hp | ⟨rfl, rfl⟩
      · rw [h x y hp]
      · exact absurd rfl d
theorem allR_len : allR.length = 36 := by decide
theorem getR {i : Int} (h : 0 ≤ i ∧ i < 36) : allR[i.toNat]? = some (rlA i) := by
  have hn : i.toNat < allR.length := by rw [allR_len]; omega
  rw [List.getElem?_eq_getElem hn]
  simp [rlA, hn]
theorem getT {i : Int} (h : 0 ≤ i ∧ i < 36) : allT[i.toNat]? = some (rlA i).t := by
  unfold allT
  rw [List.getElem?_map, getR h]
  rfl
theorem two_sh (b : Bool) (X : ExK) (k : U → Prop) : vRepr [.lst [.bl b, .bl b]] X k = k (.str (shw (.lst [.bl b, .bl b]))) := Sz.repr (n := 3) (w := 20) (by cases b <;> exact ⟨_, rfl, by decide +kernel, by decide +kernel⟩) (by decide) (by decide)
theorem two_shL (b : Bool) (X : ExK) (k : U → Prop) : vLRepr [.bl b, .bl b] X k = k (.str (shw (.lst [.bl b, .bl b]))) := by
  have h : vRepr [.lst [.bl b, .bl b]] X (fun _ => True) := by rw [two_sh]; trivial
  rw [vRepr_def] at h
  have e : uP 63 (.lst [.bl b, .bl b]) = some (.list [.bool b, .bool b]) := rfl
  rw [e] at h
  exact propext ⟨fun z => z.2, fun z => ⟨h.1, z⟩⟩
theorem uK2 (a b : Int) : uKeys [.int a, .int b] = some (kyA a b) := rfl
theorem leC_trans {a b c : Cast} (h : leC a b = true) (g : leC b c = true) : leC a c = true := by revert h g; cases a <;> cases b <;> cases c <;> decide
theorem leB_trans {a b c : Bool} (h : leB a b = true) (g : leB b c = true) : leB a c = true := by revert h g; cases a <;> cases b <;> cases c <;> decide
theorem leA_trans {a b c : Alike} (h : leA a b = true) (g : leA b c = true) : leA a c = true := by revert h g; cases a <;> cases b <;> cases c <;> decide
theorem lets_trans {q r s : Rl4} (h : lets q r = true) (g : lets r s = true) : lets q s = true := by
  unfold lets at h g ⊢
  simp only [Bool.and_eq_true] at h g ⊢
  exact ⟨leC_trans h.1 g.1, leB_trans h.2.1 g.2.1, leA_trans h.2.2.1 g.2.2.1, leB_trans h.2.2.2 g.2.2.2⟩
theorem lets_refl (q : Rl4) : lets q q = true := by
  obtain ⟨c, o, a, s⟩ := q
  cases c <;> cases o <;> cases a <;> cases s <;> decide
theorem lets_zero (q : Rl4) : lets (rlA 0) q = true := by
  obtain ⟨c, o, a, s⟩ := q
  cases c <;> cases o <;> cases a <;> cases s <;> decide
theorem rl_pl (q : Rl4) : Pl 2 q.t := Pl.tup (Pls.all fun u hu => by
  simp only [Rl4.us, List.mem_cons, List.not_mem_nil, or_false] at hu
  rcases hu with rfl | rfl | rfl | rfl <;> exact Pl.str (strOk_lit _))
theorem q_same (X : ExK) (k : U → Prop) (q : Rl4) : p_Rule___eq__ [q.I, q.I] X k = k (.bl true) := by
  have E : ∀ X kb, vEq q.t q.t X kb = kb true := fun X kb => vEq_pl (rl_pl q) (rl_pl q) ⟨fun _ => rfl, fun _ => rfl⟩
  have I1 : ∀ (X : ExK) (k : U → Prop), vIsiO isos [q.I, .glo (Str.ofString "Rule")] X k = k (.bl true) := fun X k => by
    rw [show q.I = U.ins "Rule" ["cast", "order", "alike", "stale"] q.us from rfl, vIsiO_ins]
    exact propext ⟨fun h => h.2, fun h => ⟨rfl, h⟩⟩
  simp -dsimp [p_Rule___eq__, pb_Rule___eq__, I1, fld_cast, fld_order, fld_alike, fld_stale]
  exact Iff.of_eq (E _ _)
def wsR (q : Rl4) : List Str := [Str.ofString q.cast.n, Str.ofString (ordN q.order), Str.ofString q.alike.n, Str.ofString (stlN q.stale)]
theorem join_ok (q : Rl4) : ((wsR q).map (·.length)).sum + (wsR q).length * (Str.ofString " ").length ≤ 100 ∧ Txt.join (Str.ofString " ") (wsR q) = strR q := by
  have h : ∀ q ∈ allR, ((wsR q).map (·.length)).sum + (wsR q).length * (Str.ofString " ").length ≤ 100 ∧ Txt.join (Str.ofString " ") (wsR q) = strR q := by decide +kernel
  exact h q (allR_all q)
theorem q_join (q : Rl4) (X : ExK) (k : U → Prop) : vJoin (.str (Str.ofString " ")) [q.t] X k = k (.str (strR q)) := by
  have e : optAll uStr q.us = some (wsR q) := rfl
  obtain ⟨h1, h2⟩ := join_ok q
  unfold Rl4.t
  rw [vJoin_tup, e, oK_some, h2, eq_true (show _ ≤ 16777216 from Nat.le_trans h1 (by decide)), true_and]
theorem law_q : qb_law (none :: some (.ref 2) :: List.replicate 13 none) TrueZ sto0 := by
  have A := fun X k => y_all X k
  have J : ∀ (q : Rl4) f d, mtK "lets_no_more" [("Rule", p_Rule_lets_no_more)] q.I f d = f p_Rule_lets_no_more := fun q f d => by
    rw [show q.I = U.ins "Rule" ["cast", "order", "alike", "stale"] q.us from rfl, mtK_ins]
    exact propext ⟨fun h => h.2, fun h => ⟨by simp [Rl4.us, look_cons, ofS_inj], h⟩⟩
  have L := fun (q r : Rl4) (X : ExK) (k : U → Prop) => q_lets X k q r
  simp -dsimp [qb_law, TrueZ, A]
  refine aN_i fun s s3 hs => ?_
  simp -dsimp
  refine mix ((rng 0 36).map U.int) (rng 0 36) _ _ _ (by simp) (by decide) updS_same fun out τ hp hf => ?_
  simp -dsimp
  have md : ∀ (x4 : Option U) (k : List U → Prop) d, lcL (tSet 10) vYes (vCal (vaCons (vVar 10) vaNil) p__law_rule) [none, some (.ref 2), some (.lst allT), some (.ref s), x4, none, none, none, none, none, none, none, none, none, none] allT k d = k (allR.map Rl4.I) := fun x4 k d =>
    lcL_map1 Rl4.t Rl4.I allR k d fun q hq => ⟨_, rfl, fun k => by
      simp -dsimp
      exact Iff.of_eq (y_made _ _ q)⟩
  simp -dsimp [md]
  refine ⟨by decide, ?_⟩
  refine aN_i fun t t3 ht => ?_
  simp -dsimp
  have ho : ∀ x ∈ out, 0 ≤ x ∧ x < 36 := fun x hx => by
    have := hp.mem_iff.mp hx
    simp [rng] at this
    omega
  have hall : ∀ x : Int, 0 ≤ x → x < 36 → x ∈ out := fun x h0 h1 => hp.mem_iff.mpr (by
    simp [rng]
    exact ⟨x.toNat, by omega, by omega⟩)
  have hlo : out.length = 36 := by rw [hp.length_eq]; simp [rng]
  refine forZ_goM U.int (I := fun i Γ τ => ∃ (ks : List (List Key)) (us : List U) (x7 x9 x11 : Option U), τ t = some (.dT ks us) ∧ ks.length ≤ 36 * i ∧ Tab ks us (fun a b => a ∈ out.take i ∧ b ∈ out) ∧ Γ = [none, some (.ref 2), some (.lst allT), some (.ref s), some (.lst (out.map U.int)), some (.lst (allR.map Rl4.I)), some (.ref t), x7, none, x9, none, x11, none, none, none]) ⟨[], [], _, _, _, updS_same, by simp, ⟨rfl, fun a b h => by simp at h⟩, rfl⟩ ?_ ?_
  · rintro i a Γ τ2 nx bk hi ⟨ks, us, x7, x9, x11, e1, hk, ht2, rfl⟩ hn
    refine ⟨_, rfl, ?_⟩
    simp -dsimp
    rw [← List.map_reverse]
    have ha := ho a (List.mem_of_getElem? hi)
    have hi36 : i < 36 := by rw [← hlo]; exact (List.getElem?_eq_some_iff.mp hi).1
    refine forZ_goM U.int (I := fun j Γ τ => ∃ (ks : List (List Key)) (us : List U) (x9 x11 : Option U), τ t = some (.dT ks us) ∧ ks.length ≤ 36 * i + j ∧ Tab ks us (fun x y => (x ∈ out.take i ∧ y ∈ out) ∨ (x = a ∧ y ∈ out.reverse.take j)) ∧ Γ = [none, some (.ref 2), some (.lst allT), some (.ref s), some (.lst (out.map U.int)), some (.lst (allR.map Rl4.I)), some (.ref t), some (.int a), none, x9, none, x11, none, none, none]) ⟨ks, us, _, _, e1, by omega, ⟨ht2.1, fun x y h => ht2.2 x y (h.elim id fun h => by simp at h)⟩, rfl⟩ ?_ ?_
    · rintro j b Γ τ3 nx2 bk2 hj ⟨ks, us, x9, x11, e1, hk, ht2, rfl⟩ hn2
      have hb := ho b (List.mem_reverse.mp (List.mem_of_getElem? hj))
      have hj36 : j < 36 := by rw [← hlo, ← List.length_reverse]; exact (List.getElem?_eq_some_iff.mp hj).1
      have A1 := getR ha
      have A2 := getR hb
      have B1 := getT ha
      have B2 := getT hb
      have a0 := ha.1
      have b0 := hb.1
      have Du : ∀ (X : ExK) (k : U → Prop), p__law_due [(rlA a).t, (rlA b).t] X k = k (.bl (lets (rlA a) (rlA b))) := fun X k => y_due X k _ _
      have L1 := L (rlA a) (rlA b)
      refine ⟨_, rfl, ?_⟩
      obtain ⟨ks', us', ep, hl', ht'⟩ := ht2.put a b
      have lk : ks.length < line := Nat.lt_of_lt_of_le (show ks.length < 5000 by omega) (by decide)
      simp -dsimp [A1, A2, B1, B2, a0, b0, Du, L1, J, cal, pick_go, pick_nl, pick_e]
      rw [two_sh, two_shL]
      simp -dsimp [uK2, oDT_some e1, lk, ep]
      refine ⟨by omega, ?_⟩
      refine hn2 _ _ ⟨ks', us', _, _, updS_same, by omega, ⟨ht'.1, fun x y h => ht'.2 x y ?_⟩, rfl⟩
      rcases h with h | ⟨h1, h2⟩
      · exact .inl (.inl h)
      · rw [List.take_succ, hj] at h2
        rcases List.mem_append.mp h2 with h2 | h2
        · exact .inl (.inr ⟨h1, h2⟩)
        · simp at h2
          exact .inr ⟨h1, h2⟩
    · rintro Γ τ3 ⟨ks, us, x9, x11, e1, hk, ht2, rfl⟩
      refine hn _ _ ⟨ks, us, _, _, _, e1, ?_, ?_, rfl⟩
      · rw [List.length_reverse, hlo] at hk
        omega
      · refine ⟨ht2.1, fun x y h => ht2.2 x y ?_⟩
        rw [List.take_length]
        rw [List.take_succ, hi] at h
        rcases List.mem_append.mp h.1 with h1 | h1
        · exact .inl ⟨h1, h.2⟩
        · simp at h1
          exact .inr ⟨h1, List.mem_reverse.mpr h.2⟩
  · rintro Γ τ2 ⟨ks, us, x7, x9, x11, e1, hk, ht2, rfl⟩
    have G : ∀ x y : Int, (0 ≤ x ∧ x < 36) → (0 ≤ y ∧ y < 36) → uVal ks us (kyA x y) = some (.bl (lets (rlA x) (rlA y))) := fun x y hx hy => ht2.2 x y ⟨by rw [List.take_of_length_le (by simp)]; exact hall x hx.1 hx.2, hall y hy.1 hy.2⟩
    simp -dsimp
    refine forZ_go (I := fun i Γ τ => ∃ (x7 x8 x9 x11 x12 x13 x14 : Option U), τ t = some (.dT ks us) ∧ Γ = [none, some (.ref 2), some (.lst allT), some (.ref s), some (.lst (out.map U.int)), some (.lst (allR.map Rl4.I)), some (.ref t), x7, x8, x9, none, x11, x12, x13, x14]) ⟨_, _, _, _, _, _, _, e1, rfl⟩ ?_ ?_
    · rintro i u Γ τ3 nx bk hu ⟨x7, x8, x9, x11, x12, x13, x14, e1, rfl⟩ hn
      refine ⟨_, rfl, ?_⟩
      simp -dsimp [p__law_draw, cal]
      intro a ha b hb c hc
      have a' : 0 ≤ (a : Int) ∧ (a : Int) < 36 := by omega
      have b' : 0 ≤ (b : Int) ∧ (b : Int) < 36 := by omega
      have c' : 0 ≤ (c : Int) ∧ (c : Int) < 36 := by omega
      have A1 : allR[a]? = some (rlA a) := by simpa using getR a'
      have A2 : allT[a]? = some (rlA a).t := by simpa using getT a'
      have Mk : ∀ (q : Rl4) (X : ExK) (k : U → Prop), p__law_rule [q.t] X k = k q.I := fun q X k => y_made X k q
      have V : ∀ (q : Rl4) (X : ExK) (k : Bool → Prop), vEqM [("Rule", p_Rule___eq__)] true q.I q.I X k = k false := fun q X k => by
        rw [show q.I = U.ins "Rule" ["cast", "order", "alike", "stale"] q.us from rfl, vEqM_go (p := p_Rule___eq__) rfl]
        refine (q_same _ _ q).trans ?_
        rfl
      have fin : nx [none, some (.ref 2), some (.lst allT), some (.ref s), some (.lst (out.map U.int)), some (.lst (allR.map Rl4.I)), some (.ref t), x7, some u, x9, none, x11, some (.int a), some (.int b), some (.int c)] τ3 := hn _ _ ⟨_, _, _, _, _, _, _, e1, rfl⟩
      simp -dsimp [uK2, oDT_some e1, G _ _ a' b', G _ _ b' c', G _ _ a' c', G _ _ a' a', G 0 a (by decide) a', lets_refl, lets_zero, A1, A2, Mk, V, cal]
      by_cases h1 : lets (rlA a) (rlA b) = true
      · by_cases h2 : lets (rlA b) (rlA c) = true
        · simp only [h1, h2, lets_trans h1 h2, if_true, true_and]
          exact fin
        · simp only [h1, h2, if_true, if_false]
          exact fin
      · simp only [h1, if_false]
        exact fin
    · rintro Γ τ3 ⟨x7, x8, x9, x11, x12, x13, x14, e1, rfl⟩
      have A0 : allT[0]? = some (rlA 0).t := rfl
      have E0 : ∀ (X : ExK) (kb : Bool → Prop), vEq (rlA 0).t (.tup [.str (Str.ofString "none"), .str (Str.ofString "none"), .str (Str.ofString "none"), .str (Str.ofString "none")]) X kb = kb true := fun X kb => vEq_pl (rl_pl _) (rl_pl (rlA 0)) ⟨fun _ => rfl, fun _ => rfl⟩
      simp -dsimp [A0, E0]
      rw [lcL_map U.int (fun _ => false) U.int (rng 0 36) _ _ fun i hi => ?hc]
      case hc =>
        have hi' : 0 ≤ i ∧ i < 36 := by
          simp [rng] at hi
          omega
        have S : ∀ (q : Rl4) (X : ExK) (k : U → Prop), vStrM [("Rule", p_Rule___str__)] [q.I] X k = k (.str (strR q)) := fun q X k => by
          rw [show q.I = U.ins "Rule" ["cast", "order", "alike", "stale"] q.us from rfl, vStrM_go (p := p_Rule___str__) rfl]
          exact (q_str _ _ q).trans rfl
        refine ⟨_, rfl, fun k => ?_, fun h => by cases h⟩
        simp -dsimp [getR hi', getT hi', hi'.1, S, q_join]
      simp
theorem law_true (ns : List Int) (hl : ns.length ≤ 63) : ∃ ah', m_law [.ref 0] (ah0 ns) = .ok (.bl true) ah' := law_link hl law_q
end HL
open PySem PySem.W PySem.Calls PyProof.Rows
set_option maxRecDepth 100000 in
set_option maxHeartbeats 0 in
theorem PySem.Challenge.cw_heldaddresses_k03_rules_that_let_no_more_holds : PySem.Challenge.rw_heldaddresses_k03_rules_that_let_no_more.Holds := by
  w_on; o_law
  refine HandSHeadRun.head_any (r := OpenLaw.row PySem.Challenge.rw_heldaddresses_k03_rules_that_let_no_more) (q := HL.hq) (H := HL.hhk) (ob := HL.hob) (M := 8000) (loose := HL.hnm) (d := HandSHeadRun.topDef (OpenLaw.row PySem.Challenge.rw_heldaddresses_k03_rules_that_let_no_more).prog 16) (kwd := []) HL.hob_eq
    (by kernel_rfl) (fun s => by kernel_rfl) HL.hrun (by kernel_rfl) (by kernel_rfl) (by kernel_rfl) (by rfl) (by first | assumption | decide +kernel) (by decide +kernel) ⟨rfl, rfl, rfl, rfl, rfl, by decide +kernel⟩ ?hw ?hc
  case hw => w_witness2
  case hc =>
    refine HF.walk_GE (l := PySem.Challenge.rw_heldaddresses_k03_rules_that_let_no_more) (k := 7) (x := "_law_script") (m := HL.m_law) rfl (by kernel_rfl) (HA.rm_caller (by decide)) ?F (fun ns hl => HL.law_true ns hl)
    intro w mg fa h Y G hmg0
    obtain ⟨K, KX, c⟩ := Y
    have hmg : mg ("law" : PySem.Str) = some (.ref fa) := by
      have e : (HandSHeadRun.topDef (OpenLaw.row PySem.Challenge.rw_heldaddresses_k03_rules_that_let_no_more).prog 16).name = ("law" : PySem.Str) := by kernel_rfl
      rw [← e]
      exact hmg0
    obtain ⟨fd, hb, hF⟩ := HL.all_hk (P := (PySem.Challenge.rw_heldaddresses_k03_rules_that_let_no_more).prog) (w := w) KX G hmg c
    exact ⟨K, fd, KX, hb, hF⟩
