import PyProof.Rows.All
import Wide.All
import OpenK.AllK
import Wide.FinOn
import HandS.ForMost
import HandS.ForExc
import HandS.ExcCtx
import HandS.Lambda
import HandS.Nested
import HandS.Style
import HandS.TupAny
import HandS.TupMul
import HandS.Conv
import HandS.IsInst
import HandS.Wide
import HandS.Zip
import HandS.Deep
import HandS.TryOnly
import HandS.ExcIs
import HandS.CallSlots
import HandS.SortInts
import HandS.More
import HandS.NoneIn
import KE.SortData
import KE.SortKeyHeap
import KE.KTupSum
import HandS.Head0
import HandS.Head1
import HandS.Head2
import HandS.HeadEnd
import HandS.HeadHook1
import HandS.HeadHook2
import HandS.HeadHook3
import HandS.HeadHook4
import HandS.HeadNt
import KE.GoesEnum
import KE.KDictSum
import HandS.Dict
import HandS.Small
import HandS.ClsMeth
import HandS.NestedK
import HandS.HeadWalk
import HandS.EndTab
import KE.KRevSl
import KE.GoesMore
import HandS.CallLocal
import HandS.HotCalls
import KE.GoesZip
import HandS.Comp
import KE.DataCmp
import HandS.OwnEq
import OpenK.KOps
import PySem.Challenge.RW_feeorders_k19_whole_an_account_step_by_s
set_option Elab.async false
set_option linter.all false
set_option autoImplicit false
set_option maxRecDepth 100000
set_option maxHeartbeats 2000000
/-! DL: data over the hand layer. -/
namespace L2
open PySem PySem.Spec PyProof.Rows
theorem passN {X : Cx} : Passes (L2N.CX X.prog X.w) X E0 := fun _ _ _ _ _ _ _ h => by
  obtain ⟨_, _, _, _, _, _, _, _, _, _, _, _, z⟩ := h
  exact z.elim
theorem takesN {X : Cx} : L2N.Takes X (fun _ _ _ _ => False) := fun _ _ x => by
  obtain ⟨_, _, _, _, _, _, _, _, _, _, _, _, _, _, _, _, z⟩ := x
  exact z.elim
/-- a def that may raise, its exceptions' context None -/
theorem okXN {P : Program} {w : World} {K : PySem.W.Frag} {mg : Str → Option Value} {base : Heap} {x qual : Str} {st : Stmt} {f : Addr} {fd : FuncData} {N ps : List Str} {k : Nat} {sp : Sp} (F : Fun K x qual st f fd) (S : FnScope N ps (defScope st)) (len : ∀ vs H Q E, sp vs H Q E → vs.length = ps.length)
    (hbody : ∀ (cdv : Value) (A : Around) (outer : List Env) (s : Shared) (H : Hp) (vs : List V) (Q : VK) (E : XK), Room k (A.deeper (envOfC qual (defScope st) s.heap.objs.size f cdv)) → sp vs H Q E →
      ∃ t, PSs (cxOf (L2N.CX P w) P w K mg base N qual (defScope st) f cdv A outer s H E) (defBody st) t ∧ t { nx := fun _ H' => Q .non H', rt := Q } (start N vs) H) : FnOk P w K mg base (L2N.CX P w) (k + 1) f fd ps sp := by
  obtain ⟨oc, od, kV, doc, pm, an, cdv, ct, osl, rfl, lk, hcd⟩ := F.ex
  exact fn_of lk hcd S len fun A outer s H vs Q E hr hsp => hbody cdv A outer s H vs Q E hr hsp
end L2
namespace DL
open PySem PySem.Spec PyProof.Rows L2

/-! ### hidden addresses, growing heaps -/
def isTbl : HO → Bool
  | .tbl _ => true
  | _ => false
def isTupO : HO → Bool
  | .tup _ => true
  | .ext _ => true
  | _ => false
abbrev Ads := List Addr
def hmk (S : Addr → Bool) (As : Ads) (H : Hp) : Hp := fun a => if S a = true ∨ a ∈ As then none else H a
theorem hmk_some {S : Addr → Bool} {As : Ads} {H : Hp} {a : Addr} {o : HO} (h : hmk S As H a = some o) : S a = false ∧ a ∉ As ∧ H a = some o := by
  unfold hmk at h
  split at h
  · cases h
  · rename_i q
    refine ⟨?_, fun z => q (.inr z), h⟩
    cases e : S a with
    | false => rfl
    | true => exact absurd (.inl e) q
theorem hmk_of {S : Addr → Bool} {As : Ads} {H : Hp} {a : Addr} {o : HO} (h1 : S a = false) (h2 : a ∉ As) (h : H a = some o) : hmk S As H a = some o := by
  unfold hmk
  rw [if_neg (fun z => ?_)]
  · exact h
  · rcases z with z | z
    · rw [h1] at z; cases z
    · exact h2 z
/-- what data lean on is kept -/
def Kp (H H' : Hp) : Prop := ∀ a o, H a = some o → isTbl o = false → H' a = some o
theorem Kp.refl (H : Hp) : Kp H H := fun _ _ h _ => h
theorem Kp.trans {H H1 H2 : Hp} (a : Kp H H1) (b : Kp H1 H2) : Kp H H2 := fun x o h t => b x o (a x o h t) t
theorem Kp.sqL {K : PySem.W.Frag} {H H' : Hp} (k : Kp H H') {a : Addr} {xs : List V} (h : SqL K H a xs) : SqL K H' a xs := by
  rcases h with (h | ⟨o, h⟩) | h
  · exact .inl (.inl (k _ _ h rfl))
  · exact .inl (.inr ⟨o, k _ _ h rfl⟩)
  · exact .inr h
theorem Kp.sqT {K : PySem.W.Frag} {H H' : Hp} (k : Kp H H') {a : Addr} {xs : List V} (h : SqT K H a xs) : SqT K H' a xs := by
  rcases h with (h | ⟨o, h⟩) | h
  · exact .inl (.inl (k _ _ h rfl))
  · exact .inl (.inr ⟨o, k _ _ h rfl⟩)
  · exact .inr h
mutual
theorem dp_kp {K : PySem.W.Frag} {H H' : Hp} (k : Kp H H') : ∀ (d : PyData) (v : V), Dp K H v d → Dp K H' v d
  | .none, _, h => by cases h; exact .non
  | .bool _, _, h => by cases h; exact .bl _
  | .int _, _, h => by cases h; exact .int _
  | .str _, _, h => by cases h; exact .str _
  | .list ds, _, h => by
    cases h with
    | lst h1 h2 => exact .lst (k.sqL h1) (dpAll_kp k ds _ h2)
  | .tuple ds, _, h => by
    cases h with
    | tup h1 h2 => exact .tup (k.sqT h1) (dpAll_kp k ds _ h2)
  | .dict _, _, h => by cases h
theorem dpAll_kp {K : PySem.W.Frag} {H H' : Hp} (k : Kp H H') : ∀ (ds : List PyData) (vs : List V), DpAll K H vs ds → DpAll K H' vs ds
  | [], _, h => by cases h; exact .nil
  | d :: ds, _, h => by
    cases h with
    | cons h1 h2 => exact .cons (dp_kp k d _ h1) (dpAll_kp k ds _ h2)
end
theorem dpAll_length {K : PySem.W.Frag} {H : Hp} : ∀ {vs : List V} {ds : List PyData}, DpAll K H vs ds → vs.length = ds.length
  | _, _, .nil => rfl
  | _, _, .cons _ t => by rw [List.length_cons, List.length_cons, dpAll_length t]
theorem dpAll_get {K : PySem.W.Frag} {H : Hp} : ∀ {vs : List V} {ds : List PyData} {i : Nat} {d : PyData}, DpAll K H vs ds → ds[i]? = some d → ∃ v, vs[i]? = some v ∧ Dp K H v d
  | _, _, _, _, .nil, e => by simp at e
  | _, _, 0, _, .cons h _, e => by
    simp at e; subst e
    exact ⟨_, rfl, h⟩
  | _, _, i + 1, _, .cons _ t, e => by
    obtain ⟨v, h1, h2⟩ := dpAll_get (i := i) t (by simpa using e)
    exact ⟨v, by simpa using h1, h2⟩
theorem dpAll_get' {K : PySem.W.Frag} {H : Hp} : ∀ {vs : List V} {ds : List PyData} {i : Nat} {v : V}, DpAll K H vs ds → vs[i]? = some v → ∃ d, ds[i]? = some d ∧ Dp K H v d
  | _, _, _, _, .nil, e => by simp at e
  | _, _, 0, _, .cons h _, e => by
    simp at e; subst e
    exact ⟨_, rfl, h⟩
  | _, _, i + 1, _, .cons _ t, e => by
    obtain ⟨v, h1, h2⟩ := dpAll_get' (i := i) t (by simpa using e)
    exact ⟨v, by simpa using h1, h2⟩
theorem dpAll_append {K : PySem.W.Frag} {H : Hp} : ∀ {vs ws : List V} {ds es : List PyData}, DpAll K H vs ds → DpAll K H ws es → DpAll K H (vs ++ ws) (ds ++ es)
  | _, _, _, _, .nil, s => s
  | _, _, _, _, .cons r t, s => .cons r (dpAll_append t s)
theorem dpAll_set {K : PySem.W.Frag} {H : Hp} {v : V} {d : PyData} (h : Dp K H v d) : ∀ {vs : List V} {ds : List PyData} (i : Nat), DpAll K H vs ds → DpAll K H (vs.set i v) (ds.set i d)
  | _, _, _, .nil => .nil
  | _, _, 0, .cons _ t => .cons h t
  | _, _, i + 1, .cons q t => .cons q (dpAll_set h i t)
theorem dpAll_take {K : PySem.W.Frag} {H : Hp} : ∀ {vs : List V} {ds : List PyData} (n : Nat), DpAll K H vs ds → DpAll K H (vs.take n) (ds.take n)
  | _, _, 0, _ => .nil
  | _, _, _ + 1, .nil => .nil
  | _, _, n + 1, .cons r t => .cons r (dpAll_take n t)
theorem dpAll_drop {K : PySem.W.Frag} {H : Hp} : ∀ {vs : List V} {ds : List PyData} (n : Nat), DpAll K H vs ds → DpAll K H (vs.drop n) (ds.drop n)
  | _, _, 0, r => r
  | _, _, _ + 1, .nil => .nil
  | _, _, n + 1, .cons _ t => dpAll_drop n t
theorem dpAll_reverse {K : PySem.W.Frag} {H : Hp} : ∀ {vs : List V} {ds : List PyData}, DpAll K H vs ds → DpAll K H vs.reverse ds.reverse
  | _, _, .nil => .nil
  | _, _, .cons r t => by
    rw [List.reverse_cons, List.reverse_cons]
    exact dpAll_append (dpAll_reverse t) (.cons r .nil)
/-- ints -/
theorem dp_ints {K : PySem.W.Frag} {H : Hp} : ∀ {ns : List Int} {vs : List V}, DpAll K H vs (ns.map .int) → vs = ns.map .int
  | [], vs, h => by cases h; rfl
  | n :: ns, vs, h => by
    have h' : DpAll K H vs (.int n :: ns.map .int) := h
    cases h' with
    | cons h1 h2 =>
      cases h1
      rw [dp_ints h2]; rfl
theorem dp_ints_of {K : PySem.W.Frag} {H : Hp} : ∀ (ns : List Int), DpAll K H (ns.map .int) (ns.map .int)
  | [] => .nil
  | n :: ns => .cons (.int n) (dp_ints_of ns)

/-! ### slots, the memory -/
/-- what a name (or a value) is known to be: nothing, data, a value of the layer, the i-th own object -/
inductive Sl where
  | un | d (x : PyData) | v (v : V) | m (i : Nat)
  /-- a closure, by what is true of it now and later -/
  | f (Φ : V → (Addr → Bool) → List Addr → Hp → Prop)
  /-- a pair of data or own objects -/
  | pr (a b : PyData ⊕ Nat)
  /-- an instance of a text's class with two attributes, data or own objects; it stays as it is -/
  | ob (C : Addr) (n1 n2 : Str) (a b : PyData ⊕ Nat)
/-- a dict, perhaps locked -/
def dkO : Option Obj → List (Key × V) → HO
  | none, kvs => .dK kvs
  | some o, kvs => .frz o (.dK kvs)
theorem dkO_t (fz : Option Obj) (kvs : List (Key × V)) : isTbl (dkO fz kvs) = false := by cases fz <;> rfl
theorem dkO_u (fz : Option Obj) (kvs : List (Key × V)) : isTupO (dkO fz kvs) = false := by cases fz <;> rfl
theorem dkO_x (fz : Option Obj) (kvs : List (Key × V)) (φ : Heap → Prop) : dkO fz kvs ≠ .ext φ := by cases fz <;> exact fun z => nomatch z
/-- what an own object is: a list of data, any object of the layer, a dict of data (locked at an object, or not) -/
inductive MO where
  | lst (ds : List PyData) | ho (o : HO) | P (φ : HO → Prop) | dd (fz : Option Obj) (kvs : List (Key × PyData))

section
variable (K : PySem.W.Frag) (S : Addr → Bool) (As : Ads) (H : Hp)
def SlP (v : V) : PyData ⊕ Nat → Prop
  | .inl x => Dp K (hmk S As H) v x
  | .inr i => ∃ a, As[i]? = some a ∧ v = .ref a
def SlR (v : V) : Sl → Prop
  | .un => True
  | .d x => Dp K (hmk S As H) v x
  | .v w => v = w
  | .m i => ∃ a, As[i]? = some a ∧ v = .ref a
  | .f Φ => ∀ S' As' H', Kp (hmk S As H) (hmk S' As' H') → Φ v S' As' H'
  | .pr a b => ∃ p v1 v2, v = .ref p ∧ hmk S As H p = some (.tup [v1, v2]) ∧ SlP K S As H v1 a ∧ SlP K S As H v2 b
  | .ob C n1 n2 a b => ∃ p dx v1 v2, v = .ref p ∧ hmk S As H p = some (.ins C dx [(n1, v1), (n2, v2)]) ∧ SlP K S As H v1 a ∧ SlP K S As H v2 b
def MOR (a : Addr) : MO → Prop
  | .lst ds => ds.length ≤ sizeLine ∧ ∃ vs, H a = some (.lst vs) ∧ DpAll K (hmk S As H) vs ds
  | .ho o => H a = some o ∧ isTbl o = false ∧ isTupO o = false
  | .P φ => ∃ o, H a = some o ∧ isTbl o = false ∧ isTupO o = false ∧ φ o
  | .dd fz kvs => kvs.length ≤ sizeLine ∧ ∃ vs, H a = some (dkO fz ((kvs.map (·.1)).zip vs)) ∧ DpAll K (hmk S As H) vs (kvs.map (·.2))
end
/-- from a heap and its own objects to a later one -/
structure Go (As : Ads) (H : Hp) (As' : Ads) (H' : Hp) : Prop where
  pre : ∃ r, As' = As ++ r
  kp : ∀ a o, H a = some o → a ∉ As → a ∉ As' ∧ (isTbl o = false → H' a = some o)
  dm : ∀ a, H a ≠ none → H' a ≠ none
structure RM (K : PySem.W.Frag) (T : List NdefX.NTab) (S : Addr → Bool) (As : Ads) (H : Hp) (M : List MO) : Prop where
  len : As.length = M.length
  nd : As.Nodup
  sS : ∀ a ∈ As, S a = false
  sd : ∀ a, S a = true → H a ≠ none
  at_ : ∀ (i : Nat) (a : Addr) (mo : MO), As[i]? = some a → M[i]? = some mo → MOR K S As H a mo
  tb : NdefX.TabsN T H
  st : ∀ a, S a = true → ∀ o, H a = some o → isTupO o = false
structure RE (K : PySem.W.Frag) (S : Addr → Bool) (As : Ads) (H : Hp) (σ : L2.St) (ρ : List Sl) : Prop where
  len : σ.length = ρ.length
  at_ : ∀ (i : Nat) (s : Sl), ρ[i]? = some s → s ≠ .un → ∃ v, σ[i]? = some (some v) ∧ SlR K S As H v s

section
variable {K : PySem.W.Frag} {T : List NdefX.NTab} {S : Addr → Bool} {As As1 As2 As' : Ads} {H H1 H2 H' : Hp} {M M' : List MO} {σ : L2.St} {ρ : List Sl} {v : V} {s : Sl} {a : Addr}
theorem Go.refl (As : Ads) (H : Hp) : Go As H As H := ⟨⟨[], by simp⟩, fun _ _ h n => ⟨n, fun _ => h⟩, fun _ h => h⟩
theorem Go.trans (x : Go As H As1 H1) (y : Go As1 H1 As2 H2) : Go As H As2 H2 := by
  refine ⟨?_, fun a o h n => ?_, fun a h => y.dm a (x.dm a h)⟩
  · obtain ⟨r, e⟩ := x.pre
    obtain ⟨r', e'⟩ := y.pre
    exact ⟨r ++ r', by rw [e', e, List.append_assoc]⟩
  · obtain ⟨n1, k1⟩ := x.kp a o h n
    have h1 : H1 a ≠ none := x.dm a (by rw [h]; exact fun z => nomatch z)
    cases e : H1 a with
    | none => exact absurd e h1
    | some o' =>
      obtain ⟨n2, k2⟩ := y.kp a o' e n1
      refine ⟨n2, fun t => ?_⟩
      have := k1 t
      rw [e] at this
      cases this
      exact k2 t
theorem Go.kpm (g : Go As H As' H') : Kp (hmk S As H) (hmk S As' H') := fun a o h t => by
  obtain ⟨h1, h2, h3⟩ := hmk_some h
  obtain ⟨n, k⟩ := g.kp a o h3 h2
  exact hmk_of h1 n (k t)
theorem Go.ix (g : Go As H As' H') {i : Nat} (h : As[i]? = some a) : As'[i]? = some a := by
  obtain ⟨r, e⟩ := g.pre
  rw [e]
  exact List.getElem?_append_left (List.getElem?_eq_some_iff.mp h).1 ▸ h
theorem SlP.go {x : PyData ⊕ Nat} (g : Go As H As' H') (h : SlP K S As H v x) : SlP K S As' H' v x := by
  cases x with
  | inl x => exact dp_kp g.kpm x v h
  | inr i =>
    obtain ⟨a, e, r⟩ := h
    exact ⟨a, g.ix e, r⟩
theorem SlR.go (g : Go As H As' H') (h : SlR K S As H v s) : SlR K S As' H' v s := by
  cases s with
  | un => trivial
  | d x => exact dp_kp g.kpm x v h
  | v w => exact h
  | f Φ => exact fun S' As' H' k => h S' As' H' (g.kpm.trans k)
  | pr a b =>
    obtain ⟨p, v1, v2, e, h1, h2, h3⟩ := h
    exact ⟨p, v1, v2, e, g.kpm _ _ h1 rfl, h2.go g, h3.go g⟩
  | ob C n1 n2 a b =>
    obtain ⟨p, dx, v1, v2, e, h1, h2, h3⟩ := h
    exact ⟨p, dx, v1, v2, e, g.kpm _ _ h1 rfl, h2.go g, h3.go g⟩
  | m i =>
    obtain ⟨a, e, r⟩ := h
    exact ⟨a, g.ix e, r⟩
theorem RE.go (g : Go As H As' H') (h : RE K S As H σ ρ) : RE K S As' H' σ ρ := ⟨h.len, fun i s e n => by
  obtain ⟨v, e1, r⟩ := h.at_ i s e n
  exact ⟨v, e1, r.go g⟩⟩
theorem RE.set (h : RE K S As H σ ρ) (i : Nat) (r : SlR K S As H v s) : RE K S As H (σ.set i (some v)) (ρ.set i s) := by
  refine ⟨by rw [List.length_set, List.length_set]; exact h.len, fun j z e n => ?_⟩
  by_cases hj : i = j
  · subst hj
    have hl : i < ρ.length := by
      have := (List.getElem?_eq_some_iff.mp e).1
      rwa [List.length_set] at this
    rw [List.getElem?_set_self hl] at e
    cases e
    exact ⟨v, by rw [List.getElem?_set_self (by rw [h.len]; exact hl)], r⟩
  · rw [List.getElem?_set_ne hj] at e ⊢
    exact h.at_ j z e n
/-- less is known -/
def Wk : List Sl → List Sl → Prop := fun ρ ρ' => ρ.length = ρ'.length ∧ ∀ (i : Nat) (s : Sl), ρ'[i]? = some s → s = .un ∨ ρ[i]? = some s
theorem Wk.refl (ρ : List Sl) : Wk ρ ρ := ⟨rfl, fun _ _ h => .inr h⟩
theorem Wk.nil : Wk [] [] := Wk.refl _
theorem Wk.un {s : Sl} {ρ ρ' : List Sl} (h : Wk ρ ρ') : Wk (s :: ρ) (.un :: ρ') := ⟨by simp [h.1], fun i z e => by
  cases i with
  | zero => simp at e; exact .inl e.symm
  | succ i => exact h.2 i z (by simpa using e)⟩
theorem Wk.cons {s : Sl} {ρ ρ' : List Sl} (h : Wk ρ ρ') : Wk (s :: ρ) (s :: ρ') := ⟨by simp [h.1], fun i z e => by
  cases i with
  | zero => exact .inr e
  | succ i => exact h.2 i z (by simpa using e)⟩
theorem RE.wk (h : RE K S As H σ ρ) {ρ' : List Sl} (w : Wk ρ ρ') : RE K S As H σ ρ' := ⟨h.len.trans w.1, fun i s e n => by
  rcases w.2 i s e with z | z
  · exact absurd z n
  · exact h.at_ i s z n⟩
theorem MOR.dom {mo : MO} (h : MOR K S As H a mo) : H a ≠ none := by
  cases mo with
  | lst ds => obtain ⟨_, vs, e, _⟩ := h; rw [e]; exact fun z => nomatch z
  | dd fz kv => obtain ⟨_, vs, e, _⟩ := h; rw [e]; exact fun z => nomatch z
  | ho o => obtain ⟨e, _⟩ := h; rw [e]; exact fun z => nomatch z
  | P φ => obtain ⟨o, e, _⟩ := h; rw [e]; exact fun z => nomatch z
theorem RM.ex (h : RM K T S As H M) {i : Nat} {mo : MO} (e : M[i]? = some mo) : ∃ a, As[i]? = some a ∧ MOR K S As H a mo := by
  have hl := (List.getElem?_eq_some_iff.mp e).1
  have hl' : i < As.length := by rw [h.len]; exact hl
  exact ⟨As[i], List.getElem?_eq_getElem hl', h.at_ i _ mo (List.getElem?_eq_getElem hl') e⟩
theorem RM.ntA (h : RM K T S As H M) (ha : a ∈ As) {o : HO} (e : H a = some o) : isTupO o = false := by
  obtain ⟨i, hi, ea⟩ := List.mem_iff_getElem.mp ha
  have e' : As[i]? = some a := by rw [List.getElem?_eq_getElem hi, ea]
  have hm : i < M.length := by rw [← h.len]; exact hi
  have h0 := h.at_ i a _ e' (List.getElem?_eq_getElem hm)
  cases hmo : M[i] with
  | lst ds =>
    rw [hmo] at h0
    obtain ⟨_, vs, e1, _⟩ := h0
    rw [e] at e1; cases e1; rfl
  | dd fz kv =>
    rw [hmo] at h0
    obtain ⟨_, vs, e1, _⟩ := h0
    rw [e] at e1; cases e1; exact dkO_u _ _
  | ho u =>
    rw [hmo] at h0
    obtain ⟨e1, _, t⟩ := h0
    rw [e] at e1; cases e1; exact t
  | P φ =>
    rw [hmo] at h0
    obtain ⟨u, e1, _, t, _⟩ := h0
    rw [e] at e1; cases e1; exact t
theorem RM.dom (h : RM K T S As H M) (ha : a ∈ As) : H a ≠ none := by
  obtain ⟨i, hi, e⟩ := List.mem_iff_getElem.mp ha
  have e' : As[i]? = some a := by rw [List.getElem?_eq_getElem hi, e]
  have hm : i < M.length := by rw [← h.len]; exact hi
  exact (h.at_ i a _ e' (List.getElem?_eq_getElem hm)).dom
theorem RM.fresh (h : RM K T S As H M) (n : H a = none) : S a = false ∧ a ∉ As := by
  refine ⟨?_, fun z => h.dom z n⟩
  cases e : S a with
  | false => rfl
  | true => exact absurd n (h.sd a e)

/-! ### tables stay while lists, tuples and new objects change -/
theorem tabs_upd {p : Addr} {o : HO} (hp : ∀ u, H p = some u → isTbl u = false ∧ ∀ φ, u ≠ .ext φ) (hT : NdefX.TabsN T H) : NdefX.TabsN T (upd H p o) := fun x hx => by
  obtain ⟨ps, h1, h2, h3⟩ := hT x hx
  refine ⟨ps, ?_, h2, fun pos cv hc => ?_⟩
  · rw [upd_ne (fun z => ?_)]
    · exact h1
    · have := (hp _ (z ▸ h1)).1
      cases this
  · obtain ⟨c, e1, e2⟩ := h3 pos cv hc
    refine ⟨c, e1, ?_⟩
    rw [upd_ne (fun z => (hp _ (z ▸ e2)).2 _ rfl)]
    exact e2
theorem go_new {p : Addr} {o : HO} (hM : RM K T S As H M) (n : H p = none) : Go As H As (upd H p o) := by
  refine ⟨⟨[], by simp⟩, fun a u h na => ⟨na, fun _ => ?_⟩, fun a h => ?_⟩
  · rw [upd_ne (ne_of_none h n)]; exact h
  · by_cases e : a = p
    · rw [e, upd_same]; exact fun z => nomatch z
    · rw [upd_ne e]; exact h
/-- a new object that is data from now on -/
theorem RM.new {p : Addr} {o : HO} (hM : RM K T S As H M) (n : H p = none) : RM K T S As (upd H p o) M := by
  have g : Go As H As (upd H p o) := go_new hM n
  refine ⟨hM.len, hM.nd, hM.sS, fun a h => g.dm a (hM.sd a h), fun i a mo e1 e2 => ?_, tabs_upd (fun u e => by rw [n] at e; cases e) hM.tb, fun a h u e => hM.st a h u (by rw [upd_ne (fun z => hM.sd a h (by rw [z]; exact n))] at e; exact e)⟩
  have h0 := hM.at_ i a mo e1 e2
  have ne : a ≠ p := fun z => h0.dom (z ▸ n)
  cases mo with
  | lst ds =>
    obtain ⟨z, vs, e, r⟩ := h0
    exact ⟨z, vs, by rw [upd_ne ne]; exact e, dpAll_kp g.kpm _ _ r⟩
  | dd fz kv =>
    obtain ⟨z, vs, e, r⟩ := h0
    exact ⟨z, vs, by rw [upd_ne ne]; exact e, dpAll_kp g.kpm _ _ r⟩
  | ho o => exact ⟨by rw [upd_ne ne]; exact h0.1, h0.2⟩
  | P φ =>
    obtain ⟨o', e, t, q⟩ := h0
    exact ⟨o', by rw [upd_ne ne]; exact e, t, q⟩
theorem mem_app_ix {As : Ads} {p : Addr} {i : Nat} {a : Addr} (e : (As ++ [p])[i]? = some a) : As[i]? = some a ∨ (i = As.length ∧ a = p) := by
  by_cases hi : i < As.length
  · rw [List.getElem?_append_left hi] at e; exact .inl e
  · rw [List.getElem?_append_right (by omega)] at e
    have : i - As.length = 0 := by
      have := (List.getElem?_eq_some_iff.mp e).1
      simp at this; omega
    rw [this] at e
    simp at e
    exact .inr ⟨by omega, e.symm⟩
/-- a new object that is own from now on -/
theorem go_own {p : Addr} {o : HO} (hM : RM K T S As H M) (n : H p = none) : Go As H (As ++ [p]) (upd H p o) := by
  refine ⟨⟨[p], rfl⟩, fun a u h na => ⟨fun z => ?_, fun _ => ?_⟩, fun a h => ?_⟩
  · rcases List.mem_append.mp z with z | z
    · exact na z
    · simp at z
      exact ne_of_none h n z
  · rw [upd_ne (ne_of_none h n)]; exact h
  · by_cases e : a = p
    · rw [e, upd_same]; exact fun z => nomatch z
    · rw [upd_ne e]; exact h
theorem RM.own {p : Addr} {o : HO} {mo : MO} (hM : RM K T S As H M) (n : H p = none) (r : MOR K S (As ++ [p]) (upd H p o) p mo) : RM K T S (As ++ [p]) (upd H p o) (M ++ [mo]) := by
  have g : Go As H (As ++ [p]) (upd H p o) := go_own hM n
  obtain ⟨hs, hn⟩ := hM.fresh n
  refine ⟨by rw [List.length_append, List.length_append, hM.len]; rfl, ?_, fun a ha => ?_, fun a h => g.dm a (hM.sd a h), fun i a mo' e1 e2 => ?_, tabs_upd (fun u e => by rw [n] at e; cases e) hM.tb, fun a h u e => hM.st a h u (by rw [upd_ne (fun z => hM.sd a h (by rw [z]; exact n))] at e; exact e)⟩
  · rw [List.nodup_append]
    refine ⟨hM.nd, by simp, fun a ha b hb => ?_⟩
    simp at hb
    subst hb
    exact fun z => hn (z ▸ ha)
  · rcases List.mem_append.mp ha with z | z
    · exact hM.sS a z
    · simp at z; subst z; exact hs
  · rcases mem_app_ix e1 with e | ⟨e, ea⟩
    · have hi : i < M.length := by rw [← hM.len]; exact (List.getElem?_eq_some_iff.mp e).1
      rw [List.getElem?_append_left hi] at e2
      have h0 := hM.at_ i a mo' e e2
      have ne : a ≠ p := fun z => h0.dom (z ▸ n)
      cases mo' with
      | lst ds =>
        obtain ⟨z, vs, e, q⟩ := h0
        exact ⟨z, vs, by rw [upd_ne ne]; exact e, dpAll_kp g.kpm _ _ q⟩
      | dd fz kv =>
        obtain ⟨z, vs, e, q⟩ := h0
        exact ⟨z, vs, by rw [upd_ne ne]; exact e, dpAll_kp g.kpm _ _ q⟩
      | ho o => exact ⟨by rw [upd_ne ne]; exact h0.1, h0.2⟩
      | P φ =>
        obtain ⟨o', e, t, q⟩ := h0
        exact ⟨o', by rw [upd_ne ne]; exact e, t, q⟩
    · subst ea
      rw [List.getElem?_append_right (by rw [e, hM.len]; exact Nat.le_refl _)] at e2
      have z : i - M.length = 0 := by rw [e, hM.len]; omega
      rw [z] at e2
      simp at e2
      subst e2
      exact r
/-- an own object changes -/
theorem go_mut {i : Nat} {o u : HO} (hM : RM K T S As H M) (ha : As[i]? = some a) (hu : H a = some u) (ht : isTbl u = false) (hx : ∀ φ, u ≠ .ext φ) : Go As H As (upd H a o) := by
  have hm : a ∈ As := List.mem_of_getElem? ha
  refine ⟨⟨[], by simp⟩, fun b w h nb => ⟨nb, fun _ => ?_⟩, fun b h => ?_⟩
  · rw [upd_ne (fun z => nb (by rw [z]; exact hm))]; exact h
  · by_cases e : b = a
    · rw [e, upd_same]; exact fun z => nomatch z
    · rw [upd_ne e]; exact h
theorem RM.mut {i : Nat} {o u : HO} {mo : MO} (hM : RM K T S As H M) (ha : As[i]? = some a) (hu : H a = some u) (ht : isTbl u = false) (hx : ∀ φ, u ≠ .ext φ) (r : MOR K S As (upd H a o) a mo) : RM K T S As (upd H a o) (M.set i mo) := by
  have g : Go As H As (upd H a o) := go_mut hM ha hu ht hx
  refine ⟨by rw [List.length_set]; exact hM.len, hM.nd, hM.sS, fun b h => g.dm b (hM.sd b h), fun j b mo' e1 e2 => ?_, tabs_upd (fun w e => by rw [hu] at e; cases e; exact ⟨ht, hx⟩) hM.tb, fun b h w e => hM.st b h w (by rw [upd_ne (fun z => by have := hM.sS a (List.mem_of_getElem? ha); rw [z, this] at h; cases h)] at e; exact e)⟩
  by_cases hj : i = j
  · subst hj
    have hi : i < M.length := by rw [← hM.len]; exact (List.getElem?_eq_some_iff.mp e1).1
    rw [List.getElem?_set_self hi] at e2
    cases e2
    rw [ha] at e1
    cases e1
    exact r
  · rw [List.getElem?_set_ne hj] at e2
    have ne : b ≠ a := fun z => hj (nd_ix hM.nd ha (z ▸ e1))
    have h0 := hM.at_ j b mo' e1 e2
    cases mo' with
    | lst ds =>
      obtain ⟨z, vs, e, q⟩ := h0
      exact ⟨z, vs, by rw [upd_ne ne]; exact e, dpAll_kp g.kpm _ _ q⟩
    | dd fz kv =>
      obtain ⟨z, vs, e, q⟩ := h0
      exact ⟨z, vs, by rw [upd_ne ne]; exact e, dpAll_kp g.kpm _ _ q⟩
    | ho o => exact ⟨by rw [upd_ne ne]; exact h0.1, h0.2⟩
    | P φ =>
      obtain ⟨o', e, t, q⟩ := h0
      exact ⟨o', by rw [upd_ne ne]; exact e, t, q⟩
/-- the last own list becomes data -/
theorem RM.freeze {p : Addr} {ds : List PyData} {vs : List V} (hM : RM K T S (As ++ [p]) H (M ++ [.lst ds])) : RM K T S As H M ∧ Dp K (hmk S As H) (.ref p) (.list ds) := by
  have hl : As.length = M.length := by have := hM.len; simp at this; exact this
  have nd := List.nodup_append.mp hM.nd
  have hk : Kp (hmk S (As ++ [p]) H) (hmk S As H) := fun a o h _ => by
    obtain ⟨h1, h2, h3⟩ := hmk_some h
    exact hmk_of h1 (fun z => h2 (List.mem_append_left _ z)) h3
  have hp : p ∉ As := fun z => nd.2.2 p z p (by simp) rfl
  refine ⟨⟨hl, nd.1, fun a ha => hM.sS a (List.mem_append_left _ ha), hM.sd, fun i a mo e1 e2 => ?_, hM.tb, hM.st⟩, ?_⟩
  · have hi := (List.getElem?_eq_some_iff.mp e1).1
    have h0 := hM.at_ i a mo (by rw [List.getElem?_append_left hi]; exact e1) (by rw [List.getElem?_append_left (by rw [← hl]; exact hi)]; exact e2)
    cases mo with
    | lst ds =>
      obtain ⟨z, vs, e, q⟩ := h0
      exact ⟨z, vs, e, dpAll_kp hk _ _ q⟩
    | dd fz kv =>
      obtain ⟨z, vs, e, q⟩ := h0
      exact ⟨z, vs, e, dpAll_kp hk _ _ q⟩
    | ho o => exact h0
    | P φ => exact h0
  · have h0 := hM.at_ As.length p (.lst ds) (by simp) (by rw [hl]; simp)
    obtain ⟨_, vs, e, q⟩ := h0
    exact .lst (.inl (.inl (hmk_of (hM.sS p (by simp)) hp e))) (dpAll_kp hk _ _ q)
end
end DL

set_option Elab.async false
set_option linter.all false
set_option autoImplicit false
set_option maxRecDepth 100000
set_option maxHeartbeats 2000000
/-! DL: judgements on readings. -/
namespace DL
open PySem PySem.Spec PyProof.Rows L2

/-- the constants of a body: the written part, the tables of code objects, what is wanted of an exception -/
structure Cn where
  K : PySem.W.Frag
  T : List NdefX.NTab
  E : L2.St → XK
abbrev QS := Sl → List MO → Prop
abbrev QB := Bool → List MO → Prop
abbrev QA := List Sl → List MO → Prop
abbrev QE := List Sl → List MO → Prop
abbrev XP := Addr → List MO → Prop
abbrev X0 : XP := fun _ _ => False

section
variable (c : Cn) (S : Addr → Bool) (As : Ads) (H : Hp)
/-- what is wanted behind: of a value, of a truth value, of values, of an exception -/
def KS (Q : QS) (R : VK) : Prop := ∀ s M' As' v H', Q s M' → Go As H As' H' → RM c.K c.T S As' H' M' → SlR c.K S As' H' v s → R v H'
def KB (Q : QB) (R : Bool → Hp → Prop) : Prop := ∀ b M' As' H', Q b M' → Go As H As' H' → RM c.K c.T S As' H' M' → R b H'
def SlRs (As : Ads) (H : Hp) : List V → List Sl → Prop := Paired fun v s => SlR c.K S As H v s
def KA (Q : QA) (R : List V → Hp → Prop) : Prop := ∀ ss M' As' vs H', Q ss M' → Go As H As' H' → RM c.K c.T S As' H' M' → SlRs c S As' H' vs ss → R vs H'
def KX (σ : L2.St) (X : XP) : Prop := ∀ C M' As' H', X C M' → Go As H As' H' → RM c.K c.T S As' H' M' → c.E σ (.ref C) none H'
end
def EV (c : Cn) (t : TE) (ρ : List Sl) (M : List MO) (Q : QS) (X : XP) : Prop :=
  ∀ S As σ H, RE c.K S As H σ ρ → RM c.K c.T S As H M → ∀ R, KS c S As H Q R → KX c S As H σ X → t σ H R
def ET (c : Cn) (t : TT) (ρ : List Sl) (M : List MO) (Q : QB) (X : XP) : Prop :=
  ∀ S As σ H, RE c.K S As H σ ρ → RM c.K c.T S As H M → ∀ R, KB c S As H Q R → KX c S As H σ X → t σ H R
def EA (c : Cn) (t : TA) (ρ : List Sl) (M : List MO) (Q : QA) (X : XP) : Prop :=
  ∀ S As σ H, RE c.K S As H σ ρ → RM c.K c.T S As H M → ∀ R, KA c S As H Q R → KX c S As H σ X → t σ H R
/-- operations on values -/
def RB (c : Cn) (r : R2) (x y : Sl) (M : List MO) (Q : QS) : Prop :=
  ∀ S As H v w, SlR c.K S As H v x → SlR c.K S As H w y → RM c.K c.T S As H M → ∀ R, KS c S As H Q R → r v w H R
def RU (c : Cn) (r : V → Hp → VK → Prop) (x : Sl) (M : List MO) (Q : QS) : Prop :=
  ∀ S As H v, SlR c.K S As H v x → RM c.K c.T S As H M → ∀ R, KS c S As H Q R → r v H R
def RC (c : Cn) (r : List V → Hp → VK → Prop) (xs : List Sl) (M : List MO) (Q : QS) : Prop :=
  ∀ S As H vs, SlRs c S As H vs xs → RM c.K c.T S As H M → ∀ R, KS c S As H Q R → r vs H R

section
variable {c : Cn} {S : Addr → Bool} {As As1 : Ads} {H H1 : Hp} {M M1 : List MO} {ρ : List Sl} {σ : L2.St} {Q Q' : QS} {X X' : XP} {R : VK} {ta tb te : TE} {tt tu : TT} {x y s : Sl} {v w : V}
theorem KS.at_ {M' : List MO} {s : Sl} {As' : Ads} {H' : Hp} (k : KS c S As H Q R) (q : Q s M') (g : Go As H As' H') (m : RM c.K c.T S As' H' M') (r : SlR c.K S As' H' v s) : R v H' := k s M' As' v H' q g m r
theorem KS.here (k : KS c S As H Q R) (q : Q s M) (m : RM c.K c.T S As H M) (r : SlR c.K S As H v s) : R v H := k s M As v H q (.refl _ _) m r
theorem KB.here {Q : QB} {R : Bool → Hp → Prop} {b : Bool} (k : KB c S As H Q R) (q : Q b M) (m : RM c.K c.T S As H M) : R b H := k b M As H q (.refl _ _) m
theorem KA.here {Q : QA} {R : List V → Hp → Prop} {ss : List Sl} {vs : List V} (k : KA c S As H Q R) (q : Q ss M) (m : RM c.K c.T S As H M) (r : SlRs c S As H vs ss) : R vs H := k ss M As vs H q (.refl _ _) m r
theorem KS.go (k : KS c S As H Q R) (g : Go As H As1 H1) : KS c S As1 H1 Q R := fun s M' As' v H' q g' m r => k s M' As' v H' q (g.trans g') m r
theorem KB.go {Q : QB} {R : Bool → Hp → Prop} (k : KB c S As H Q R) (g : Go As H As1 H1) : KB c S As1 H1 Q R := fun s M' As' H' q g' m => k s M' As' H' q (g.trans g') m
theorem KA.go {Q : QA} {R : List V → Hp → Prop} (k : KA c S As H Q R) (g : Go As H As1 H1) : KA c S As1 H1 Q R := fun s M' As' v H' q g' m r => k s M' As' v H' q (g.trans g') m r
theorem KX.go (k : KX c S As H σ X) (g : Go As H As1 H1) : KX c S As1 H1 σ X := fun C M' As' H' q g' m => k C M' As' H' q (g.trans g') m
theorem KX.imp (k : KX c S As H σ X) (h : ∀ C M, X' C M → X C M) : KX c S As H σ X' := fun C M' As' H' q g m => k C M' As' H' (h _ _ q) g m
theorem KX.none : KX c S As H σ X0 := fun _ _ _ _ q => q.elim
theorem SlRs.go {vs : List V} {ss : List Sl} (g : Go As H As1 H1) (h : SlRs c S As H vs ss) : SlRs c S As1 H1 vs ss := Paired.mapP h fun _ _ r => r.go g
theorem EV.imp (h : EV c te ρ M Q X) (hq : ∀ s M', Q s M' → Q' s M') (hx : ∀ C M', X C M' → X' C M') : EV c te ρ M Q' X' := fun S As σ H e m R k kx =>
  h S As σ H e m R (fun s M' As' v H' q g m' r => k s M' As' v H' (hq _ _ q) g m' r) (kx.imp hx)
theorem ET.imp {Q Q' : QB} (h : ET c tt ρ M Q X) (hq : ∀ s M', Q s M' → Q' s M') (hx : ∀ C M', X C M' → X' C M') : ET c tt ρ M Q' X' := fun S As σ H e m R k kx =>
  h S As σ H e m R (fun s M' As' H' q g m' => k s M' As' H' (hq _ _ q) g m') (kx.imp hx)
theorem EA.imp {ta : TA} {Q Q' : QA} (h : EA c ta ρ M Q X) (hq : ∀ s M', Q s M' → Q' s M') (hx : ∀ C M', X C M' → X' C M') : EA c ta ρ M Q' X' := fun S As σ H e m R k kx =>
  h S As σ H e m R (fun s M' As' v H' q g m' r => k s M' As' v H' (hq _ _ q) g m' r) (kx.imp hx)
theorem ev_var {i : Nat} (h : ρ[i]? = some s) (n : s ≠ .un) (q : Q s M) : EV c (tVar i) ρ M Q X := fun S As σ H e m R k _ => by
  obtain ⟨v, e1, r⟩ := e.at_ i s h n
  exact ⟨v, e1, k.here q m r⟩
theorem ev_c (r : ∀ S As H, SlR c.K S As H v s) (q : Q s M) : EV c (tC v) ρ M Q X := fun S As σ H e m R k _ => k.here q m (r S As H)
theorem ev_op {r : R2} (h : EV c ta ρ M (fun x M1 => EV c tb ρ M1 (fun y M2 => RB c r x y M2 Q) X) X) : EV c (tOp r ta tb) ρ M Q X := fun S As σ H e m R k kx =>
  h S As σ H e m _ (fun x M1 As1 v H1 q1 g1 m1 r1 => q1 S As1 σ H1 (e.go g1) m1 _ (fun y M2 As2 w H2 q2 g2 m2 r2 => q2 S As2 H2 v w (r1.go g2) r2 m2 R (k.go (g1.trans g2))) (kx.go g1)) kx
theorem ev_un {r : V → Hp → VK → Prop} (h : EV c ta ρ M (fun x M1 => RU c r x M1 Q) X) : EV c (tUn r ta) ρ M Q X := fun S As σ H e m R k kx =>
  h S As σ H e m _ (fun x M1 As1 v H1 q1 g1 m1 r1 => q1 S As1 H1 v r1 m1 R (k.go g1)) kx
theorem ea_nil {Q : QA} (q : Q [] M) : EA c tNil ρ M Q X := fun S As σ H e m R k _ => k.here q m .nil
theorem ea_cons {tr : TA} {Q : QA} (h : EV c ta ρ M (fun x M1 => EA c tr ρ M1 (fun xs M2 => Q (x :: xs) M2) X) X) : EA c (tCons ta tr) ρ M Q X := fun S As σ H e m R k kx =>
  h S As σ H e m _ (fun x M1 As1 v H1 q1 g1 m1 r1 => q1 S As1 σ H1 (e.go g1) m1 _ (fun xs M2 As2 vs H2 q2 g2 m2 r2 => k (x :: xs) M2 As2 (v :: vs) H2 q2 (g1.trans g2) m2 (.cons (r1.go g2) r2)) (kx.go g1)) kx
theorem ev_cb {r : List V → Hp → VK → Prop} {t : TA} (h : EA c t ρ M (fun xs M1 => RC c r xs M1 Q) X) : EV c (tCB r t) ρ M Q X := fun S As σ H e m R k kx =>
  h S As σ H e m _ (fun xs M1 As1 vs H1 q1 g1 m1 r1 => q1 S As1 H1 vs r1 m1 R (k.go g1)) kx

/-! ### determined values -/
def Dv (c : Cn) (t : TE) (ρ : List Sl) (M : List MO) (d : PyData) : Prop := EV c t ρ M (fun s M' => s = .d d ∧ M' = M) X0
/-- a new own list -/
def Dl (c : Cn) (t : TE) (ρ : List Sl) (M : List MO) (ds : List PyData) : Prop := EV c t ρ M (fun s M' => s = .m M.length ∧ M' = M ++ [.lst ds]) X0
def Dt (c : Cn) (t : TT) (ρ : List Sl) (M : List MO) (b : Bool) : Prop := ET c t ρ M (fun b' M' => b' = b ∧ M' = M) X0
def Da (c : Cn) (t : TA) (ρ : List Sl) (M : List MO) (ds : List PyData) : Prop := EA c t ρ M (fun ss M' => ss = ds.map .d ∧ M' = M) X0
theorem ev_dv {d : PyData} (h : Dv c te ρ M d) (q : Q (.d d) M) : EV c te ρ M Q X := EV.imp h (fun s M' ⟨e, e'⟩ => by subst e; subst e'; exact q) fun _ _ z => z.elim
theorem ev_dl {ds : List PyData} (h : Dl c te ρ M ds) (q : Q (.m M.length) (M ++ [.lst ds])) : EV c te ρ M Q X := EV.imp h (fun s M' ⟨e, e'⟩ => by subst e; subst e'; exact q) fun _ _ z => z.elim
theorem et_dt {Q : QB} {b : Bool} (h : Dt c tt ρ M b) (q : Q b M) : ET c tt ρ M Q X := ET.imp h (fun s M' ⟨e, e'⟩ => by subst e; subst e'; exact q) fun _ _ z => z.elim
theorem ea_da {ta : TA} {Q : QA} {ds : List PyData} (h : Da c ta ρ M ds) (q : Q (ds.map .d) M) : EA c ta ρ M Q X := EA.imp h (fun s M' ⟨e, e'⟩ => by subst e; subst e'; exact q) fun _ _ z => z.elim
/-- the new own list becomes data -/
theorem ev_frz (h : EV c te ρ M (fun s M1 => ∃ ds, s = .m M.length ∧ M1 = M ++ [.lst ds] ∧ Q (.d (.list ds)) M) X) : EV c te ρ M Q X := fun S As σ H e m R k kx =>
  h S As σ H e m R (fun s M' As' v H' ⟨ds, e1, e2, q⟩ g m' r => by
    subst e1; subst e2
    obtain ⟨r', eA⟩ := g.pre
    have hl : r'.length = 1 := by
      have := m'.len
      rw [eA] at this
      simp [m.len] at this
      exact this
    obtain ⟨p, rfl⟩ : ∃ p, r' = [p] := by
      match r', hl with
      | [p], _ => exact ⟨p, rfl⟩
    subst eA
    obtain ⟨m2, dp⟩ := RM.freeze (vs := []) m'
    obtain ⟨a, ea, rfl⟩ := r
    have : a = p := by
      rw [← m.len] at ea
      simp at ea
      exact ea.symm
    subst this
    refine k (.d (.list ds)) M As (.ref a) H' q ⟨⟨[], by simp⟩, fun b o hb nb => ?_, g.dm⟩ m2 dp
    obtain ⟨n1, k1⟩ := g.kp b o hb nb
    exact ⟨nb, k1⟩) kx
theorem dv_dl {ds : List PyData} (h : Dl c te ρ M ds) : Dv c te ρ M (.list ds) := ev_frz (EV.imp h (fun s M' ⟨e, e'⟩ => ⟨ds, e, e', rfl, rfl⟩) fun _ _ z => z)
theorem Dv.cast {d d' : PyData} (h : Dv c te ρ M d) (e : d = d') : Dv c te ρ M d' := e ▸ h
theorem Dl.cast {d d' : List PyData} (h : Dl c te ρ M d) (e : d = d') : Dl c te ρ M d' := e ▸ h
theorem Dt.cast {d d' : Bool} (h : Dt c tt ρ M d) (e : d = d') : Dt c tt ρ M d' := e ▸ h
theorem dv_var {i : Nat} {d : PyData} (h : ρ[i]? = some (.d d)) : Dv c (tVar i) ρ M d := ev_var h (fun z => nomatch z) ⟨rfl, rfl⟩
theorem dv_int {i : Int} : Dv c (tC (.int i)) ρ M (.int i) := ev_c (s := .d (.int i)) (fun _ _ _ => Dp.int i) ⟨rfl, rfl⟩
theorem dv_bl {b : Bool} : Dv c (tC (.bl b)) ρ M (.bool b) := ev_c (s := .d (.bool b)) (fun _ _ _ => Dp.bl b) ⟨rfl, rfl⟩
theorem dv_non : Dv c (tC .non) ρ M .none := ev_c (s := .d .none) (fun _ _ _ => Dp.non) ⟨rfl, rfl⟩
theorem dv_str {x : Str} : Dv c (tC (.str x)) ρ M (.str x) := ev_c (s := .d (.str x)) (fun _ _ _ => Dp.str x) ⟨rfl, rfl⟩
theorem da_nil : Da c tNil ρ M [] := ea_nil ⟨rfl, rfl⟩
theorem da_cons {tr : TA} {d : PyData} {ds : List PyData} (h : Dv c ta ρ M d) (hr : Da c tr ρ M ds) : Da c (tCons ta tr) ρ M (d :: ds) :=
  ea_cons (ev_dv h (ea_da hr ⟨rfl, rfl⟩))
theorem dv_op {r : R2} {x y z : PyData} (ha : Dv c ta ρ M x) (hb : Dv c tb ρ M y) (hr : RB c r (.d x) (.d y) M (fun s M' => s = .d z ∧ M' = M)) : Dv c (tOp r ta tb) ρ M z :=
  ev_op (ev_dv ha (ev_dv hb hr))
theorem dl_op {r : R2} {x y : PyData} {zs : List PyData} (ha : Dv c ta ρ M x) (hb : Dv c tb ρ M y) (hr : RB c r (.d x) (.d y) M (fun s M' => s = .m M.length ∧ M' = M ++ [.lst zs])) : Dl c (tOp r ta tb) ρ M zs :=
  ev_op (ev_dv ha (ev_dv hb hr))
theorem rb_I0 {g : Int → Int → V} {i j : Int} (r : ∀ S As H, SlR c.K S As H (g i j) s) (q : Q s M) : RB c (rI0 g) (.d (.int i)) (.d (.int j)) M Q := fun S As H v w hv hw m R k => by
  cases hv; cases hw
  exact ⟨i, j, rfl, rfl, k.here q m (r S As H)⟩
theorem rb_I {C : Int → Int → Prop} {g : Int → Int → V} {i j : Int} (hc : C i j) (r : ∀ S As H, SlR c.K S As H (g i j) s) (q : Q s M) : RB c (rI C g) (.d (.int i)) (.d (.int j)) M Q := fun S As H v w hv hw m R k => by
  cases hv; cases hw
  exact ⟨i, j, rfl, rfl, hc, k.here q m (r S As H)⟩
theorem dv_i0 {g : Int → Int → Int} {i j : Int} (ha : Dv c ta ρ M (.int i)) (hb : Dv c tb ρ M (.int j)) : Dv c (tOp (rI0 fun i j => .int (g i j)) ta tb) ρ M (.int (g i j)) :=
  dv_op ha hb (rb_I0 (s := .d (.int (g i j))) (fun _ _ _ => Dp.int _) ⟨rfl, rfl⟩)
theorem dv_iI {C : Int → Int → Prop} {g : Int → Int → Int} {i j : Int} (ha : Dv c ta ρ M (.int i)) (hb : Dv c tb ρ M (.int j)) (hc : C i j) : Dv c (tOp (rI C fun i j => .int (g i j)) ta tb) ρ M (.int (g i j)) :=
  dv_op ha hb (rb_I (s := .d (.int (g i j))) hc (fun _ _ _ => Dp.int _) ⟨rfl, rfl⟩)
theorem dv_b0 {g : Int → Int → Bool} {i j : Int} (ha : Dv c ta ρ M (.int i)) (hb : Dv c tb ρ M (.int j)) : Dv c (tOp (rI0 fun i j => .bl (g i j)) ta tb) ρ M (.bool (g i j)) :=
  dv_op ha hb (rb_I0 (s := .d (.bool (g i j))) (fun _ _ _ => Dp.bl _) ⟨rfl, rfl⟩)
theorem dv_un {f : Int → Int} {i : Int} (ha : Dv c ta ρ M (.int i)) : Dv c (tUn (rU fun i => .int (f i)) ta) ρ M (.int (f i)) :=
  ev_un (ev_dv ha fun S As H v hv m R k => by
    cases hv
    exact ⟨i, rfl, k.here ⟨rfl, rfl⟩ m (.int _)⟩)
/-- == of data -/
theorem hmk_kp {S : Addr → Bool} {As : Ads} {H : Hp} : Kp (hmk S As H) H := fun a o h _ => (hmk_some h).2.2
theorem SlR.dp {d : PyData} (h : SlR c.K S As H v (.d d)) : Dp c.K H v d := dp_kp hmk_kp d v h
theorem dv_eqD {x y : PyData} (ha : Dv c ta ρ M x) (hb : Dv c tb ρ M y) (hx : SeqAt.shaped x = true) (hy : SeqAt.shaped y = true) : Dv c (tOp (rEqD c.K) ta tb) ρ M (.bool (PyData.eqv x y)) :=
  dv_op ha hb fun S As H v w hv hw m R k => ⟨x, y, hv.dp, hw.dp, hx, hy, k.here ⟨rfl, rfl⟩ m (.bl _)⟩
theorem dv_neD {x y : PyData} (ha : Dv c ta ρ M x) (hb : Dv c tb ρ M y) (hx : SeqAt.shaped x = true) (hy : SeqAt.shaped y = true) : Dv c (tOp (rNeD c.K) ta tb) ρ M (.bool (!PyData.eqv x y)) :=
  dv_op ha hb fun S As H v w hv hw m R k => ⟨x, y, hv.dp, hw.dp, hx, hy, k.here ⟨rfl, rfl⟩ m (.bl _)⟩
def isNon : PyData → Bool
  | .none => true
  | _ => false
theorem dp_non {K : PySem.W.Frag} {H : Hp} {d : PyData} {v : V} (h : Dp K H v d) : decide (v = .non) = isNon d := by
  cases h <;> simp [isNon]
def rIsN0 : R2 := fun x y H Q => y = .non ∧ Q (.bl (decide (x = .non))) H
def rNotN0 : R2 := fun x y H Q => y = .non ∧ Q (.bl (!decide (x = .non))) H
theorem dv_isN {x : PyData} (ha : Dv c ta ρ M x) (hb : Dv c tb ρ M .none) : Dv c (tOp (fun x y H Q => y = .non ∧ Q (.bl (decide (x = .non))) H) ta tb) ρ M (.bool (isNon x)) :=
  dv_op ha hb fun S As H v w hv hw m R k => by
    cases hw
    refine ⟨rfl, ?_⟩
    rw [dp_non (SlR.dp hv)]
    exact k.here ⟨rfl, rfl⟩ m (.bl _)
theorem dv_notN {x : PyData} (ha : Dv c ta ρ M x) (hb : Dv c tb ρ M .none) : Dv c (tOp (fun x y H Q => y = .non ∧ Q (.bl (!decide (x = .non))) H) ta tb) ρ M (.bool (!isNon x)) :=
  dv_op ha hb fun S As H v w hv hw m R k => by
    cases hw
    refine ⟨rfl, ?_⟩
    rw [dp_non (SlR.dp hv)]
    exact k.here ⟨rfl, rfl⟩ m (.bl _)
/-! ### tests, and, or, not -/
theorem dt_test {b : Bool} (h : Dv c te ρ M (.bool b)) : Dt c (tTest te) ρ M b := fun S As σ H e m R k kx =>
  h S As σ H e m _ (fun s M' As' v H' ⟨e1, e2⟩ g m' r => by
    subst e1; subst e2
    cases r
    exact ⟨b, rfl, k b _ As' H' ⟨rfl, rfl⟩ g m'⟩) KX.none
theorem dt_B {b : Bool} (h : Dv c te ρ M (.bool b)) : Dt c (tB te) ρ M b := fun S As σ H e m R k kx =>
  h S As σ H e m _ (fun s M' As' v H' ⟨e1, e2⟩ g m' r => by
    subst e1; subst e2
    cases r
    exact ⟨b, rfl, k b _ As' H' ⟨rfl, rfl⟩ g m'⟩) KX.none
theorem dt_and {a b : Bool} (h1 : Dt c tt ρ M a) (h2 : a = true → Dt c tu ρ M b) : Dt c (tAnd tt tu) ρ M (a && b) := fun S As σ H e m R k kx =>
  h1 S As σ H e m _ (fun s M' As' H' ⟨e1, e2⟩ g m' => by
    subst e1; subst e2
    cases s with
    | true =>
      show tu σ H' R
      exact h2 rfl S As' σ H' (e.go g) m' R (k.go g) KX.none
    | false =>
      show R false H'
      exact k false _ As' H' ⟨rfl, rfl⟩ g m') KX.none
theorem dt_or {a b : Bool} (h1 : Dt c tt ρ M a) (h2 : a = false → Dt c tu ρ M b) : Dt c (tOr tt tu) ρ M (a || b) := fun S As σ H e m R k kx =>
  h1 S As σ H e m _ (fun s M' As' H' ⟨e1, e2⟩ g m' => by
    subst e1; subst e2
    cases s with
    | true =>
      show R true H'
      exact k true _ As' H' ⟨rfl, rfl⟩ g m'
    | false =>
      show tu σ H' R
      exact h2 rfl S As' σ H' (e.go g) m' R (k.go g) KX.none) KX.none
theorem dt_not {a : Bool} (h1 : Dt c tt ρ M a) : Dt c (tNot tt) ρ M (!a) := fun S As σ H e m R k kx =>
  h1 S As σ H e m _ (fun s M' As' H' ⟨e1, e2⟩ g m' => by
    subst e1; subst e2
    exact k (!s) _ As' H' ⟨rfl, rfl⟩ g m') KX.none
theorem dv_and {a : Bool} {y : Bool} (h1 : Dv c ta ρ M (.bool a)) (h2 : a = true → Dv c tb ρ M (.bool y)) : Dv c (tAndV ta tb) ρ M (.bool (a && y)) := fun S As σ H e m R k kx =>
  h1 S As σ H e m _ (fun s M' As' v H' ⟨e1, e2⟩ g m' r => by
    subst e1; subst e2
    cases r
    refine ⟨a, rfl, ?_⟩
    cases a with
    | true =>
      show tb σ H' R
      exact h2 rfl S As' σ H' (e.go g) m' R (k.go g) KX.none
    | false =>
      show R (.bl false) H'
      exact k (.d (.bool false)) _ As' _ H' ⟨rfl, rfl⟩ g m' (.bl _)) KX.none
theorem dv_or {a : Bool} {y : Bool} (h1 : Dv c ta ρ M (.bool a)) (h2 : a = false → Dv c tb ρ M (.bool y)) : Dv c (tOrV ta tb) ρ M (.bool (a || y)) := fun S As σ H e m R k kx =>
  h1 S As σ H e m _ (fun s M' As' v H' ⟨e1, e2⟩ g m' r => by
    subst e1; subst e2
    cases r
    refine ⟨a, rfl, ?_⟩
    cases a with
    | true =>
      show R (.bl true) H'
      exact k (.d (.bool true)) _ As' _ H' ⟨rfl, rfl⟩ g m' (.bl _)
    | false =>
      show tb σ H' R
      exact h2 rfl S As' σ H' (e.go g) m' R (k.go g) KX.none) KX.none
theorem dv_not {a : Bool} (h1 : Dv c ta ρ M (.bool a)) : Dv c (tNotV ta) ρ M (.bool (!a)) := fun S As σ H e m R k kx =>
  h1 S As σ H e m _ (fun s M' As' v H' ⟨e1, e2⟩ g m' r => by
    subst e1; subst e2
    cases r
    exact ⟨a, rfl, k (.d (.bool (!a))) _ As' _ H' ⟨rfl, rfl⟩ g m' (.bl _)⟩) KX.none
/-- a if t else b, whatever the parts do -/
theorem ev_if (h : ET c tt ρ M (fun b M1 => (b = true → EV c ta ρ M1 Q X) ∧ (b = false → EV c tb ρ M1 Q X)) X) : EV c (tIf tt ta tb) ρ M Q X := fun S As σ H e m R k kx =>
  h S As σ H e m _ (fun b M1 As1 H1 q g m1 => by
    cases b with
    | true =>
      show ta σ H1 R
      exact q.1 rfl S As1 σ H1 (e.go g) m1 R (k.go g) (kx.go g)
    | false =>
      show tb σ H1 R
      exact q.2 rfl S As1 σ H1 (e.go g) m1 R (k.go g) (kx.go g)) kx
theorem dv_if {b : Bool} {x y : PyData} (h : Dt c tt ρ M b) (h1 : b = true → Dv c ta ρ M x) (h2 : b = false → Dv c tb ρ M y) : Dv c (tIf tt ta tb) ρ M (if b = true then x else y) :=
  ev_if (et_dt h ⟨fun e => by rw [if_pos e]; exact h1 e, fun e => by rw [if_neg (by rw [e]; exact Bool.false_ne_true)]; exact h2 e⟩)
/-- a < b < c of ints -/
theorem dv_chain {f g : Int → Int → Bool} {tc : TE} {i j l : Int} (ha : Dv c ta ρ M (.int i)) (hb : Dv c tb ρ M (.int j)) (hc : f i j = true → Dv c tc ρ M (.int l)) :
    Dv c (tChain (rI0 fun i j => .bl (f i j)) (rI0 fun i j => .bl (g i j)) ta tb tc) ρ M (.bool (f i j && g j l)) := fun S As σ H e m R k _ =>
  ha S As σ H e m _ (fun s M1 As1 v H1 ⟨e1, e2⟩ g1 m1 r1 => by
    subst e1; subst e2
    cases r1
    refine hb S As1 σ H1 (e.go g1) m1 _ (fun s M2 As2 v H2 ⟨e1, e2⟩ g2 m2 r2 => ?_) KX.none
    subst e1; subst e2
    cases r2
    refine ⟨i, j, rfl, rfl, f i j, rfl, ?_⟩
    cases hf : f i j with
    | true =>
      rw [if_pos rfl]
      refine hc hf S As2 σ H2 ((e.go g1).go g2) m2 _ (fun s M3 As3 v H3 ⟨e1, e2⟩ g3 m3 r3 => ?_) KX.none
      subst e1; subst e2
      cases r3
      exact ⟨j, l, rfl, rfl, k (.d (.bool (g j l))) _ As3 _ H3 ⟨by rw [hf, Bool.true_and], rfl⟩ ((g1.trans g2).trans g3) m3 (.bl _)⟩
    | false =>
      rw [if_neg Bool.false_ne_true]
      exact k (.d (.bool false)) _ As2 _ H2 ⟨by rw [hf, Bool.false_and], rfl⟩ (g1.trans g2) m2 (.bl _)) KX.none

/-! ### tuples, lists -/
theorem slrs_d : ∀ {vs : List V} {ds : List PyData}, SlRs c S As H vs (ds.map .d) → DpAll c.K (hmk S As H) vs ds
  | _, [], h => by
    have h' : Paired _ _ [] := h
    cases h'
    exact .nil
  | _, d :: ds, h => by
    have h' : Paired _ _ (Sl.d d :: ds.map .d) := h
    cases h' with
    | cons a b => exact .cons a (slrs_d b)
theorem slrs_of : ∀ {vs : List V} {ds : List PyData}, DpAll c.K (hmk S As H) vs ds → SlRs c S As H vs (ds.map .d)
  | _, _, .nil => .nil
  | _, _, .cons a b => .cons a (slrs_of b)
theorem ev_tup {t : TA} (h : EA c t ρ M (fun ss M1 => ∃ ds, ss = ds.map .d ∧ ds.length ≤ sizeLine ∧ Q (.d (.tuple ds)) M1) X) : EV c (tTup t) ρ M Q X := fun S As σ H e m R k kx =>
  h S As σ H e m _ (fun ss M1 As1 vs H1 ⟨ds, e1, hl, q⟩ g m1 r => by
    subst e1
    have r' := slrs_d r
    refine ⟨by rw [dpAll_length r']; exact hl, fun p hp => ?_⟩
    have g2 := go_new (o := .tup vs) m1 hp
    obtain ⟨hs, hn⟩ := m1.fresh hp
    exact k _ M1 As1 _ _ q (g.trans g2) (m1.new hp) (.tup (.inl (.inl (hmk_of hs hn upd_same))) (dpAll_kp g2.kpm _ _ r'))) kx
theorem dv_tup {t : TA} {ds : List PyData} (h : Da c t ρ M ds) (hl : ds.length ≤ 1000 := by exact Nat.le_of_ble_eq_true rfl) : Dv c (tTup t) ρ M (.tuple ds) := ev_tup (ea_da h ⟨ds, rfl, Nat.le_of_lt (small1000 hl), rfl, rfl⟩)
/-- a new own list -/
theorem own_new {p : Addr} {vs : List V} {ds : List PyData} (m : RM c.K c.T S As H M) (n : H p = none) (hl : ds.length ≤ sizeLine) (r : DpAll c.K (hmk S As H) vs ds) (k : KS c S As H Q R) (q : Q (.m M.length) (M ++ [.lst ds])) : R (.ref p) (upd H p (.lst vs)) := by
  have g2 := go_own (o := .lst vs) m n
  exact k _ _ (As ++ [p]) _ _ q g2 (m.own n ⟨hl, vs, upd_same, dpAll_kp g2.kpm _ _ r⟩) ⟨p, by rw [← m.len]; simp, rfl⟩
theorem ev_lst {t : TA} (h : EA c t ρ M (fun ss M1 => ∃ ds, ss = ds.map .d ∧ ds.length ≤ sizeLine ∧ Q (.m M1.length) (M1 ++ [.lst ds])) X) : EV c (tLst t) ρ M Q X := fun S As σ H e m R k kx =>
  h S As σ H e m _ (fun ss M1 As1 vs H1 ⟨ds, e1, hl, q⟩ g m1 r => by
    subst e1
    have r' := slrs_d r
    exact ⟨by rw [dpAll_length r']; exact hl, fun p hp => own_new m1 hp hl r' (k.go g) q⟩) kx
theorem dl_lst {t : TA} {ds : List PyData} (h : Da c t ρ M ds) (hl : ds.length ≤ 1000 := by exact Nat.le_of_ble_eq_true rfl) : Dl c (tLst t) ρ M ds := ev_lst (ea_da h ⟨ds, rfl, Nat.le_of_lt (small1000 hl), rfl, rfl⟩)
theorem dp_tup {K : PySem.W.Frag} {H : Hp} {v : V} {ds : List PyData} (h : Dp K H v (.tuple ds)) : ∃ a vs, v = .ref a ∧ SqT K H a vs ∧ DpAll K H vs ds := by
  cases h with
  | tup h1 h2 => exact ⟨_, _, rfl, h1, h2⟩
theorem dp_lst {K : PySem.W.Frag} {H : Hp} {v : V} {ds : List PyData} (h : Dp K H v (.list ds)) : ∃ a vs, v = .ref a ∧ SqL K H a vs ∧ DpAll K H vs ds := by
  cases h with
  | lst h1 h2 => exact ⟨_, _, rfl, h1, h2⟩
theorem hmk_sqT {S : Addr → Bool} {As : Ads} {H : Hp} {K : PySem.W.Frag} {a : Addr} {vs : List V} (h : SqT K (hmk S As H) a vs) : SqT K H a vs := hmk_kp.sqT h
theorem hmk_sqL {S : Addr → Bool} {As : Ads} {H : Hp} {K : PySem.W.Frag} {a : Addr} {vs : List V} (h : SqL K (hmk S As H) a vs) : SqL K H a vs := hmk_kp.sqL h
/-- an item -/
def atD (ds : List PyData) (i : Int) : Option PyData := (ixN ds.length i).bind fun j => ds[j]?
theorem atD_v {K : PySem.W.Frag} {H : Hp} {vs : List V} {ds : List PyData} {i : Int} {d : PyData} (r : DpAll K H vs ds) (h : atD ds i = some d) : ∃ v, atI vs i = some v ∧ Dp K H v d := by
  unfold atD at h
  unfold atI
  rw [dpAll_length r]
  cases e : ixN ds.length i with
  | none => rw [e] at h; cases h
  | some j =>
    rw [e] at h
    obtain ⟨v, h1, h2⟩ := dpAll_get r (show ds[j]? = some d from h)
    exact ⟨v, h1, h2⟩
theorem atD_nat {ds : List PyData} {j : Nat} {d : PyData} (h : ds[j]? = some d) : atD ds (j : Int) = some d := by
  have hl := (List.getElem?_eq_some_iff.mp h).1
  unfold atD ixN
  rw [if_pos (by omega), if_pos (by omega)]
  exact h
theorem dv_ixT {ds : List PyData} {i : Int} {d : PyData} (ha : Dv c ta ρ M (.tuple ds)) (hb : Dv c tb ρ M (.int i)) (h : atD ds i = some d) : Dv c (tOp (rIxT c.K) ta tb) ρ M d :=
  dv_op ha hb fun S As H v w hv hw m R k => by
    obtain ⟨a, vs, rfl, h1, h2⟩ := dp_tup hv
    cases hw
    obtain ⟨u, e, r⟩ := atD_v h2 h
    exact ⟨a, vs, i, u, rfl, rfl, hmk_sqT h1, e, k.here ⟨rfl, rfl⟩ m r⟩
theorem dv_ixL {ds : List PyData} {i : Int} {d : PyData} (ha : Dv c ta ρ M (.list ds)) (hb : Dv c tb ρ M (.int i)) (h : atD ds i = some d) : Dv c (tOp (rIxL c.K) ta tb) ρ M d :=
  dv_op ha hb fun S As H v w hv hw m R k => by
    obtain ⟨a, vs, rfl, h1, h2⟩ := dp_lst hv
    cases hw
    obtain ⟨u, e, r⟩ := atD_v h2 h
    exact ⟨a, vs, i, u, rfl, rfl, hmk_sqL h1, e, k.here ⟨rfl, rfl⟩ m r⟩
/-- an item of an own list -/
theorem ev_ixM {n : Nat} {ds : List PyData} {i : Int} {d : PyData} (ha : ρ[n]? = some s) (hs : ∃ j, s = .m j ∧ M[j]? = some (.lst ds)) (hb : Dv c tb ρ M (.int i)) (h : atD ds i = some d) (q : Q (.d d) M) : EV c (tOp (rIxL c.K) (tVar n) tb) ρ M Q X := by
  obtain ⟨j, rfl, hj⟩ := hs
  refine ev_op (ev_var ha (fun z => nomatch z) (ev_dv hb fun S As H v w hv hw m R k => ?_))
  cases hw
  obtain ⟨a, ea, rfl⟩ := hv
  obtain ⟨a', ea', hl, vs, e, r⟩ := m.ex hj
  rw [ea] at ea'; cases ea'
  obtain ⟨u, e', r'⟩ := atD_v r h
  exact ⟨a, vs, i, u, rfl, rfl, .inl (.inl e), e', k.here q m r'⟩
theorem dv_ixM {n j : Nat} {ds : List PyData} {i : Int} {d : PyData} (ha : ρ[n]? = some (.m j)) (hj : M[j]? = some (.lst ds)) (hb : Dv c tb ρ M (.int i)) (h : atD ds i = some d) : Dv c (tOp (rIxL c.K) (tVar n) tb) ρ M d :=
  ev_ixM ha ⟨j, rfl, hj⟩ hb h ⟨rfl, rfl⟩
end
end DL

set_option Elab.async false
set_option linter.all false
set_option autoImplicit false
set_option maxRecDepth 100000
set_option maxHeartbeats 2000000
/-! DL: statements, loops, comprehensions, calls. -/
namespace DL
open PySem PySem.Spec PyProof.Rows L2

abbrev XPs := Addr → List Sl → List MO → Prop
structure Po where
  nx : QE := fun _ _ => False
  rt : QS := fun _ _ => False
  bk : QE := fun _ _ => False
  ct : QE := fun _ _ => False
  xp : XPs := fun _ _ _ => False
def KE (c : Cn) (S : Addr → Bool) (As : Ads) (H : Hp) (Q : QE) (R : L2.St → Hp → Prop) : Prop :=
  ∀ ρ' M' As' σ' H', Q ρ' M' → Go As H As' H' → RE c.K S As' H' σ' ρ' → RM c.K c.T S As' H' M' → R σ' H'
def KXs (c : Cn) (S : Addr → Bool) (As : Ads) (H : Hp) (X : XPs) : Prop :=
  ∀ C ρ' M' As' σ' H', X C ρ' M' → Go As H As' H' → RE c.K S As' H' σ' ρ' → RM c.K c.T S As' H' M' → c.E σ' (.ref C) none H'
def EX (c : Cn) (t : TS) (ρ : List Sl) (M : List MO) (P : Po) : Prop :=
  ∀ S As σ H, RE c.K S As H σ ρ → RM c.K c.T S As H M → ∀ D : Ends, KE c S As H P.nx D.nx → KS c S As H P.rt D.rt → KE c S As H P.bk D.bk → KE c S As H P.ct D.ct → KXs c S As H P.xp → t D σ H

section
variable {c : Cn} {S : Addr → Bool} {As As1 : Ads} {H H1 : Hp} {M M1 : List MO} {ρ : List Sl} {σ : L2.St} {P P' : Po} {ta tb te : TE} {tt tu : TT} {t u : TS} {s : Sl} {v w : V}
theorem KXs.go {X : XPs} (k : KXs c S As H X) (g : Go As H As1 H1) : KXs c S As1 H1 X := fun C ρ' M' As' σ' H' q g' e m => k C ρ' M' As' σ' H' q (g.trans g') e m
theorem KXs.at_ {X : XPs} (k : KXs c S As H X) (e : RE c.K S As H σ ρ) : KX c S As H σ (fun C M' => X C ρ M') := fun C M' As' H' q g m => k C ρ M' As' σ H' q g (e.go g) m
theorem KXs.imp {X X' : XPs} (k : KXs c S As H X) (h : ∀ C ρ M, X' C ρ M → X C ρ M) : KXs c S As H X' := fun C ρ' M' As' σ' H' q g' e m => k C ρ' M' As' σ' H' (h _ _ _ q) g' e m
theorem KE.go {Q : QE} {R : L2.St → Hp → Prop} (k : KE c S As H Q R) (g : Go As H As1 H1) : KE c S As1 H1 Q R := fun ρ' M' As' σ' H' q g' e m => k ρ' M' As' σ' H' q (g.trans g') e m
theorem KE.here {Q : QE} {R : L2.St → Hp → Prop} (k : KE c S As H Q R) (q : Q ρ M) (e : RE c.K S As H σ ρ) (m : RM c.K c.T S As H M) : R σ H := k ρ M As σ H q (.refl _ _) e m
theorem KE.imp {Q Q' : QE} {R : L2.St → Hp → Prop} (k : KE c S As H Q R) (h : ∀ ρ M, Q' ρ M → Q ρ M) : KE c S As H Q' R := fun ρ' M' As' σ' H' q g' e m => k ρ' M' As' σ' H' (h _ _ q) g' e m
theorem KS.imp {Q Q' : QS} {R : VK} (k : KS c S As H Q R) (h : ∀ s M, Q' s M → Q s M) : KS c S As H Q' R := fun s M' As' v H' q g' m r => k s M' As' v H' (h _ _ q) g' m r
theorem EX.imp (h : EX c t ρ M P) (h1 : ∀ ρ M, P.nx ρ M → P'.nx ρ M) (h2 : ∀ s M, P.rt s M → P'.rt s M) (h3 : ∀ ρ M, P.bk ρ M → P'.bk ρ M) (h4 : ∀ ρ M, P.ct ρ M → P'.ct ρ M) (h5 : ∀ C ρ M, P.xp C ρ M → P'.xp C ρ M) : EX c t ρ M P' :=
  fun S As σ H e m D k1 k2 k3 k4 k5 => h S As σ H e m D (k1.imp h1) (k2.imp h2) (k3.imp h3) (k4.imp h4) (k5.imp h5)
/-- with less known -/
theorem EX.wk {ρ' : List Sl} (h : EX c t ρ' M P) (w : Wk ρ ρ') : EX c t ρ M P := fun S As σ H e m D k1 k2 k3 k4 k5 => h S As σ H (e.wk w) m D k1 k2 k3 k4 k5
theorem ex_next (q : P.nx ρ M) : EX c tNext ρ M P := fun S As σ H e m D k1 k2 k3 k4 k5 => k1.here q e m
theorem ex_seq (h : EX c t ρ M { P with nx := fun ρ' M' => EX c u ρ' M' P }) : EX c (tSeq t u) ρ M P := fun S As σ H e m D k1 k2 k3 k4 k5 =>
  h S As σ H e m _ (fun ρ' M' As' σ' H' q g e' m' => q S As' σ' H' e' m' D (k1.go g) (k2.go g) (k3.go g) (k4.go g) (k5.go g)) k2 k3 k4 k5
theorem ex_ret (h : EV c te ρ M P.rt (fun C M' => P.xp C ρ M')) : EX c (tRet te) ρ M P := fun S As σ H e m D k1 k2 k3 k4 k5 => h S As σ H e m D.rt k2 (k5.at_ e)
theorem ex_retN (h : P.rt (.d .none) M) : EX c tRetN ρ M P := fun S As σ H e m D k1 k2 k3 k4 k5 => k2.here h m .non
theorem ex_asg {i : Nat} (h : EV c te ρ M (fun s M' => P.nx (ρ.set i s) M') (fun C M' => P.xp C ρ M')) : EX c (tAsg te (gName i)) ρ M P := fun S As σ H e m D k1 k2 k3 k4 k5 =>
  h S As σ H e m _ (fun s M' As' v H' q g m' r => k1 _ M' As' _ H' q g ((e.go g).set i r) m') (k5.at_ e)
theorem ex_drop (h : EV c te ρ M (fun s M' => P.nx ρ M') (fun C M' => P.xp C ρ M')) : EX c (tDrop te) ρ M P := fun S As σ H e m D k1 k2 k3 k4 k5 =>
  h S As σ H e m _ (fun s M' As' v H' q g m' r => k1 _ M' As' _ H' q g (e.go g) m') (k5.at_ e)
theorem ex_if (h : ET c tt ρ M (fun b M1 => (b = true → EX c t ρ M1 P) ∧ (b = false → EX c u ρ M1 P)) (fun C M' => P.xp C ρ M')) : EX c (tIfS tt t u) ρ M P := fun S As σ H e m D k1 k2 k3 k4 k5 =>
  h S As σ H e m _ (fun b M1 As1 H1 q g m1 => by
    cases b with
    | true =>
      show t D σ H1
      exact q.1 rfl S As1 σ H1 (e.go g) m1 D (k1.go g) (k2.go g) (k3.go g) (k4.go g) (k5.go g)
    | false =>
      show u D σ H1
      exact q.2 rfl S As1 σ H1 (e.go g) m1 D (k1.go g) (k2.go g) (k3.go g) (k4.go g) (k5.go g)) (k5.at_ e)
theorem ex_ifd {b : Bool} (h : Dt c tt ρ M b) (h1 : b = true → EX c t ρ M P) (h2 : b = false → EX c u ρ M P) : EX c (tIfS tt t u) ρ M P := ex_if (et_dt h ⟨h1, h2⟩)
theorem ex_break (q : P.bk ρ M) : EX c tBreak ρ M P := fun S As σ H e m D k1 k2 k3 k4 k5 => k3.here q e m
theorem ex_cont (q : P.ct ρ M) : EX c tCont ρ M P := fun S As σ H e m D k1 k2 k3 k4 k5 => k4.here q e m
theorem ex_aug {i : Nat} {f : Int → Int → Int} {a : Int} (hx : ρ[i]? = some (.d (.int a))) (h : EV c te ρ M (fun s M' => ∃ b, s = .d (.int b) ∧ P.nx (ρ.set i (.d (.int (f a b)))) M') (fun C M' => P.xp C ρ M')) : EX c (tAug i te (ipI f)) ρ M P := fun S As σ H e m D k1 k2 k3 k4 k5 => by
  obtain ⟨v, e1, r⟩ := e.at_ i _ hx (fun z => nomatch z)
  cases r
  refine ⟨_, e1, h S As σ H e m _ (fun s M' As' v H' ⟨b, eb, q⟩ g m' r => ?_) (k5.at_ e)⟩
  subst eb
  cases r
  exact ⟨a, b, rfl, rfl, k1 _ M' As' _ H' q g ((e.go g).set i (s := .d (.int (f a b))) (Dp.int _)) m'⟩
theorem ex_par {i j : Nat} {t : TA} (h : EA c t ρ M (fun ss M' => ∃ s1 s2, ss = [s1, s2] ∧ P.nx ((ρ.set i s1).set j s2) M') (fun C M' => P.xp C ρ M')) : EX c (tPar i j t) ρ M P := fun S As σ H e m D k1 k2 k3 k4 k5 =>
  h S As σ H e m _ (fun ss M' As' vs H' ⟨s1, s2, es, q⟩ g m' r => by
    subst es
    cases r with
    | cons r1 r =>
      cases r with
      | cons r2 r =>
        cases r
        exact ⟨_, _, rfl, k1 _ M' As' _ H' q g (((e.go g).set i r1).set j r2) m'⟩) (k5.at_ e)
theorem ex_par3 {i j l : Nat} {t : TA} (h : EA c t ρ M (fun ss M' => ∃ s1 s2 s3, ss = [s1, s2, s3] ∧ P.nx (((ρ.set i s1).set j s2).set l s3) M') (fun C M' => P.xp C ρ M')) : EX c (tPar3 i j l t) ρ M P := fun S As σ H e m D k1 k2 k3 k4 k5 =>
  h S As σ H e m _ (fun ss M' As' vs H' ⟨s1, s2, s3, es, q⟩ g m' r => by
    subst es
    cases r with
    | cons r1 r =>
      cases r with
      | cons r2 r =>
        cases r with
        | cons r3 r =>
          cases r
          exact ⟨_, _, _, rfl, k1 _ M' As' _ H' q g ((((e.go g).set i r1).set j r2).set l r3) m'⟩) (k5.at_ e)

/-! ### targets of several names -/
def gN : List Nat → TGs
  | [] => gNil
  | j :: js => gCons (gName j) (gN js)
def setV : L2.St → List Nat → List V → L2.St
  | σ, j :: js, v :: vs => setV (σ.set j (some v)) js vs
  | σ, _, _ => σ
def setD : List Sl → List Nat → List PyData → List Sl
  | ρ, j :: js, d :: ds => setD (ρ.set j (.d d)) js ds
  | ρ, _, _ => ρ
theorem gN_run : ∀ {js : List Nat} {vs : List V} {σ : L2.St} {H : Hp} {Q : L2.St → Hp → Prop}, vs.length = js.length → Q (setV σ js vs) H → gN js vs σ H Q
  | [], [], _, _, _, _, q => ⟨rfl, q⟩
  | j :: js, v :: vs, σ, H, Q, hl, q => ⟨v, vs, rfl, gN_run (js := js) (by simpa using hl) q⟩
theorem RE.setD : ∀ {js : List Nat} {vs : List V} {ds : List PyData} {σ : L2.St} {ρ : List Sl}, RE c.K S As H σ ρ → DpAll c.K (hmk S As H) vs ds → RE c.K S As H (setV σ js vs) (setD ρ js ds)
  | [], _, _, _, _, e, _ => e
  | _ :: _, _, _, _, _, e, .nil => e
  | j :: js, _, _, _, _, e, .cons r rs => RE.setD (js := js) (e.set j (s := .d _) r) rs
/-- a, b, .. = a tuple -/
theorem ex_asgT {js : List Nat} {n : Nat} (h : EV c te ρ M (fun s M' => ∃ ds, s = .d (.tuple ds) ∧ ds.length = n ∧ js.length = n ∧ P.nx (setD ρ js ds) M') (fun C M' => P.xp C ρ M')) : EX c (tAsg te (gTup c.K n (gN js))) ρ M P := fun S As σ H e m D k1 k2 k3 k4 k5 =>
  h S As σ H e m _ (fun s M' As' v H' ⟨ds, es, hn, hj, q⟩ g m' r => by
    subst es
    obtain ⟨a, vs, rfl, h1, h2⟩ := dp_tup r
    have hl := dpAll_length h2
    exact ⟨a, vs, rfl, hmk_sqT h1, by rw [hl]; exact hn, gN_run (by rw [hl, hn, hj]) (k1 _ M' As' _ H' q g ((e.go g).setD h2) m')⟩) (k5.at_ e)

/-! ### own lists change -/
theorem ex_append {i j : Nat} {ds : List PyData} (hx : ρ[i]? = some (.m j)) (hj : M[j]? = some (.lst ds))
    (h : EV c te ρ M (fun s M' => ∃ d ds', s = .d d ∧ M'[j]? = some (.lst ds') ∧ ds'.length < 100000 ∧ P.nx ρ (M'.set j (.lst (ds' ++ [d])))) (fun C M' => P.xp C ρ M')) : EX c (tDrop (tBM c.K "list" rAppend (tVar i) (tCons te tNil))) ρ M P := fun S As σ H e m D k1 k2 k3 k4 k5 => by
  obtain ⟨v, e1, r⟩ := e.at_ i _ hx (fun z => nomatch z)
  obtain ⟨a, ea, rfl⟩ := r
  obtain ⟨a', ea', _, vs, eH, _⟩ := m.ex hj
  rw [ea] at ea'; cases ea'
  refine ⟨.ref a, e1, .inl ⟨rfl, vs, .inl (.inl eH)⟩, h S As σ H e m _ (fun s M' As' w H' ⟨d, ds', es, hj', hz, q⟩ g m' r => ?_) (k5.at_ e)⟩
  subst es
  obtain ⟨b, eb, hl, ws, eH', rr⟩ := m'.ex hj'
  rw [g.ix ea] at eb; cases eb
  have hlen : ws.length = ds'.length := dpAll_length rr
  have hsz : ds'.length < sizeLine := Nat.lt_of_lt_of_le hz (by decide)
  refine ⟨a, ws, w, rfl, rfl, eH', by rw [hlen]; exact hsz, ?_⟩
  have g2 := go_mut (o := .lst (ws ++ [w])) m' (g.ix ea) eH' rfl (fun φ z => nomatch z)
  refine k1 _ _ As' _ _ q (g.trans g2) ((e.go g).go g2) (m'.mut (g.ix ea) eH' rfl (fun φ z => nomatch z) ⟨?_, ws ++ [w], upd_same, dpAll_kp g2.kpm _ _ (dpAll_append rr (.cons r .nil))⟩)
  rw [List.length_append]
  exact hsz
/-- xs[i] = e at an own list -/
theorem ex_setL {n j : Nat} {k : TE} (hx : ρ[n]? = some (.m j))
    (h : EV c te ρ M (fun s M1 => EV c k ρ M1 (fun z M2 => ∃ d i q ds, s = .d d ∧ z = .d (.int i) ∧ M2[j]? = some (.lst ds) ∧ ixN ds.length i = some q ∧ P.nx ρ (M2.set j (.lst (ds.set q d)))) (fun C M' => P.xp C ρ M')) (fun C M' => P.xp C ρ M')) :
    EX c (tAsg te (gSub (tVar n) k rSetL)) ρ M P := fun S As σ H e m D k1 k2 k3 k4 k5 =>
  h S As σ H e m _ (fun s M1 As1 v H1 q1 g1 m1 r1 => by
    obtain ⟨u, e1, r⟩ := (e.go g1).at_ n _ hx (fun z => nomatch z)
    obtain ⟨a, ea, rfl⟩ := r
    refine ⟨.ref a, e1, q1 S As1 σ H1 (e.go g1) m1 _ (fun z M2 As2 w H2 ⟨d, i, q, ds, es, ez, hj, hq, qn⟩ g2 m2 r2 => ?_) ((k5.at_ e).go g1)⟩
    subst es; subst ez
    cases r2
    obtain ⟨b, eb, hl, ws, eH, rr⟩ := m2.ex hj
    rw [g2.ix ea] at eb; cases eb
    have r1' : SlR c.K S As2 H2 v (.d d) := SlR.go g2 r1
    refine ⟨a, ws, i, q, rfl, rfl, eH, by rw [dpAll_length rr]; exact hq, ?_⟩
    have g3 := go_mut (o := .lst (ws.set q v)) m2 (g2.ix ea) eH rfl (fun φ z => nomatch z)
    exact k1 _ _ As2 _ _ qn ((g1.trans g2).trans g3) (((e.go g1).go g2).go g3) (m2.mut (g2.ix ea) eH rfl (fun φ z => nomatch z) ⟨by rw [List.length_set]; exact hl, ws.set q v, upd_same, dpAll_kp g3.kpm _ _ (dpAll_set r1' q rr)⟩)) (k5.at_ e)

/-! ### what is walked -/
/-- J walks the items, each stored at the names js, in any later state whose memory kp admits -/
def Walk (c : Cn) (J : It) (g : TG) (S : Addr → Bool) (As : Ads) (H : Hp) (js : List Nat) (items : List (List PyData)) (kp : List MO → Prop) : Prop :=
  ∀ S2 As2 H2 M2, (∀ a, H a ≠ none → S2 a = true → S a = true) → Go As H As2 H2 → RM c.K c.T S2 As2 H2 M2 → kp M2 →
    (J.stop items.length H2) ∧ ∀ i ds, items[i]? = some ds → J.go i H2 ∧ ∀ x H3, J.yld i H2 x H3 → ∀ (σ2 : L2.St) (Q : L2.St → Hp → Prop),
      (∀ vs, Go As2 H2 As2 H3 → RM c.K c.T S2 As2 H3 M2 → DpAll c.K (hmk S2 As2 H3) vs ds → vs.length = js.length → Q (setV σ2 js vs) H3) → g x σ2 H3 Q
def IT (c : Cn) (wi : TI) (g : TG) (ρ : List Sl) (M : List MO) (js : List Nat) (kp : List MO → Prop) (Q : List (List PyData) → List MO → Prop) (X : XP) : Prop :=
  ∀ S As σ H, RE c.K S As H σ ρ → RM c.K c.T S As H M → ∀ R : It → Hp → Prop,
    (∀ items M1 As1 J H1, Q items M1 → Go As H As1 H1 → RM c.K c.T S As1 H1 M1 → Walk c J g S As1 H1 js items kp → R J H1) → KX c S As H σ X → wi σ H R
/-- for -/
theorem ex_for {wi : TI} {g : TG} {tb : TS} {js : List Nat} {kp : List MO → Prop}
    (h : IT c wi g ρ M js kp (fun items M1 => ∃ I : Nat → List Sl → List MO → Prop, I 0 ρ M1 ∧ (∀ i ρ' M', I i ρ' M' → kp M') ∧
      (∀ i ds ρ' M', items[i]? = some ds → I i ρ' M' → EX c tb (setD ρ' js ds) M' { nx := fun ρ2 M2 => ∃ ρ3, Wk ρ2 ρ3 ∧ I (i + 1) ρ3 M2, ct := fun ρ2 M2 => ∃ ρ3, Wk ρ2 ρ3 ∧ I (i + 1) ρ3 M2, bk := P.nx, rt := P.rt, xp := P.xp }) ∧
      ∀ ρ' M', I items.length ρ' M' → P.nx ρ' M') (fun C M' => P.xp C ρ M')) : EX c (tFor wi g tb) ρ M P := fun S As σ H e m D k1 k2 k3 k4 k5 =>
  h S As σ H e m _ (fun items M1 As1 J H1 ⟨I, h0, hkp, hs, hd⟩ g1 m1 wk => by
    refine ⟨fun i n σ' H' => n = items.length - i ∧ i ≤ items.length ∧ ∃ As' ρ' M', I i ρ' M' ∧ Go As1 H1 As' H' ∧ RE c.K S As' H' σ' ρ' ∧ RM c.K c.T S As' H' M', ⟨_, rfl, Nat.zero_le _, As1, ρ, M1, h0, .refl _ _, e.go g1, m1⟩, ?_⟩
    rintro i n σ' H' ⟨rfl, hi, As', ρ', M', hI, g', e', m'⟩
    obtain ⟨hstop, hgo⟩ := wk S As' H' M' (fun _ _ z => z) g' m' (hkp i _ _ hI)
    have gg := g1.trans g'
    by_cases hlt : i < items.length
    · obtain ⟨go, step⟩ := hgo i _ (List.getElem?_eq_getElem hlt)
      refine .inr ⟨go, fun σ2 H2 => ∃ As2 ρ2 M2, I (i + 1) ρ2 M2 ∧ Go As1 H1 As2 H2 ∧ RE c.K S As2 H2 σ2 ρ2 ∧ RM c.K c.T S As2 H2 M2, fun σ2 H2 hN => ⟨items.length - (i + 1), by omega, rfl, hlt, hN⟩, fun x H3 y => step x H3 y σ' _ fun vs g3 m3 r3 hl => ?_⟩
      have body := hs i _ ρ' M' (List.getElem?_eq_getElem hlt) hI
      have e3 := (e'.go g3).setD (js := js) r3
      have again : KE c S As' H3 (fun ρ2 M2 => ∃ ρ3, Wk ρ2 ρ3 ∧ I (i + 1) ρ3 M2) (fun σ2 H2 => ∃ As2 ρ2 M2, I (i + 1) ρ2 M2 ∧ Go As1 H1 As2 H2 ∧ RE c.K S As2 H2 σ2 ρ2 ∧ RM c.K c.T S As2 H2 M2) := fun ρ2 M2 As2 σ2 H2 ⟨ρ3, w, hI2⟩ g2 e2 m2 =>
        ⟨As2, ρ3, M2, hI2, (g'.trans g3).trans g2, e2.wk w, m2⟩
      exact body S As' _ H3 e3 m3 _ again ((k2.go gg).go g3) ((k1.go gg).go g3) again ((k5.go gg).go g3)
    · have ei : i = items.length := by omega
      subst ei
      exact .inl ⟨hstop, (k1.go gg).here (hd ρ' M' hI) e' m'⟩) (k5.at_ e)

/-! ### comprehensions -/
def wipeS (ρ : List Sl) : List Nat → List Sl
  | [] => ρ
  | v :: vs => (wipeS ρ vs).set v .un
theorem RE.wipe (e : RE c.K S As H σ ρ) : ∀ vs : List Nat, RE c.K S As H (wipe σ vs) (wipeS ρ vs)
  | [] => e
  | v :: vs => by
    have ih := RE.wipe e vs
    unfold L2.wipe wipeS
    refine ⟨by rw [List.length_set, List.length_set]; exact ih.len, fun i s hs n => ?_⟩
    by_cases hi : v = i
    · subst hi
      have hl := (List.getElem?_eq_some_iff.mp hs).1
      rw [List.length_set] at hl
      rw [List.getElem?_set_self hl] at hs
      cases hs
      exact absurd rfl n
    · rw [List.getElem?_set_ne hi] at hs ⊢
      exact ih.at_ i s hs n
theorem wipe_get {σ : L2.St} {vs : List Nat} (i : Nat) : (wipe σ vs)[i]? = if i ∈ vs then (if i < σ.length then some none else none) else σ[i]? := by
  induction vs with
  | nil => simp [L2.wipe]
  | cons v vs ih =>
    unfold L2.wipe
    by_cases h : v = i
    · subst h
      by_cases hl : v < σ.length
      · rw [List.getElem?_set_self (by rw [wipe_length]; exact hl)]
        simp [hl]
      · rw [List.getElem?_eq_none (by rw [List.length_set, wipe_length]; omega)]
        simp [hl]
    · rw [List.getElem?_set_ne h, ih]
      have : (i ∈ v :: vs) ↔ i ∈ vs := by simp [Ne.symm h]
      simp only [this]
theorem wipe_set {σ : L2.St} {vs : List Nat} {j : Nat} {x : Option V} (h : j ∈ vs) : wipe (σ.set j x) vs = wipe σ vs := by
  apply List.ext_getElem?
  intro i
  rw [wipe_get, wipe_get, List.length_set]
  by_cases hi : i ∈ vs
  · rw [if_pos hi, if_pos hi]
  · rw [if_neg hi, if_neg hi, List.getElem?_set_ne (fun z => hi (by rw [← z]; exact h))]
theorem wipe_wipe {σ : L2.St} {vs : List Nat} : wipe (wipe σ vs) vs = wipe σ vs := by
  apply List.ext_getElem?
  intro i
  rw [wipe_get, wipe_length, wipe_get]
  by_cases hi : i ∈ vs
  · rw [if_pos hi, if_pos hi]
  · rw [if_neg hi, if_neg hi]
theorem wipe_setV {vs : List Nat} : ∀ {js : List Nat} {ws : List V} {σ : L2.St}, (∀ j ∈ js, j ∈ vs) → wipe (setV σ js ws) vs = wipe σ vs
  | [], _, _, _ => rfl
  | _ :: _, [], _, _ => rfl
  | j :: js, w :: ws, σ, h => by
    show wipe (setV (σ.set j (some w)) js ws) vs = _
    rw [wipe_setV (fun i hi => h i (List.mem_cons_of_mem _ hi)), wipe_set (h j List.mem_cons_self)]
theorem dpAll_map_tr {K : PySem.W.Frag} {H H' : Hp} (tr : ∀ {x : V} {d : PyData}, Dp K H x d → Dp K H' x d) : ∀ {vs : List V} {ds : List PyData}, DpAll K H vs ds → DpAll K H' vs ds
  | _, _, .nil => .nil
  | _, _, .cons a b => .cons (tr a) (dpAll_map_tr tr b)
/-- an object that is neither own nor data changes -/
theorem rm_foreign {S2 : Addr → Bool} {D : Addr} {o u : HO} (m : RM c.K c.T S2 As H M) (hS : S2 D = true) (hD : H D = some u) (ht : isTbl u = false) (hx : ∀ φ, u ≠ .ext φ) (ho : isTupO o = false := by rfl) :
    RM c.K c.T S2 As (upd H D o) M ∧ (∀ {x : V} {d : PyData}, Dp c.K (hmk S2 As H) x d → Dp c.K (hmk S2 As (upd H D o)) x d) := by
  have kp : Kp (hmk S2 As H) (hmk S2 As (upd H D o)) := fun a w h _ => by
    obtain ⟨h1, h2, h3⟩ := hmk_some h
    refine hmk_of h1 h2 ?_
    rw [upd_ne (fun z => by rw [z, hS] at h1; cases h1)]
    exact h3
  refine ⟨⟨m.len, m.nd, m.sS, fun a h => ?_, fun i a mo e1 e2 => ?_, tabs_upd (fun w e => by rw [hD] at e; cases e; exact ⟨ht, hx⟩) m.tb, fun a h w e => by
    by_cases z : a = D
    · rw [z, upd_same] at e; cases e; exact ho
    · rw [upd_ne z] at e; exact m.st a h w e⟩, fun {x d} h => dp_kp kp d x h⟩
  · by_cases e : a = D
    · rw [e, upd_same]; exact fun z => nomatch z
    · rw [upd_ne e]; exact m.sd a h
  · have ne : a ≠ D := fun z => by
      have := m.sS a (List.mem_of_getElem? e1)
      rw [z, hS] at this; cases this
    have h0 := m.at_ i a mo e1 e2
    cases mo with
    | lst ds =>
      obtain ⟨z, vs, e, q⟩ := h0
      exact ⟨z, vs, by rw [upd_ne ne]; exact e, dpAll_kp kp _ _ q⟩
    | dd fz kv =>
      obtain ⟨z, vs, e, q⟩ := h0
      exact ⟨z, vs, by rw [upd_ne ne]; exact e, dpAll_kp kp _ _ q⟩
    | ho o => exact ⟨by rw [upd_ne ne]; exact h0.1, h0.2⟩
    | P φ =>
      obtain ⟨o', e, t, q⟩ := h0
      exact ⟨o', by rw [upd_ne ne]; exact e, t, q⟩
theorem ev_lc {wi : TI} {g : TG} {tc : TT} {vs js : List Nat} {kp : List MO → Prop} {Q : QS} {X : XP} (hjs : ∀ j ∈ js, j ∈ vs)
    (h : IT c wi g ρ M js kp (fun items M1 => ∃ I : Nat → List PyData → List MO → Prop, I 0 [] M1 ∧ (∀ i acc M', I i acc M' → kp M' ∧ acc.length < 100000) ∧
      (∀ i ds acc M', items[i]? = some ds → I i acc M' → ET c tc (setD (wipeS ρ vs) js ds) M' (fun b M2 => (b = true → EV c te (setD (wipeS ρ vs) js ds) M2 (fun s M3 => ∃ d, s = .d d ∧ I (i + 1) (acc ++ [d]) M3) X0) ∧ (b = false → I (i + 1) acc M2)) X0) ∧
      ∀ acc M', I items.length acc M' → Q (.m M'.length) (M' ++ [.lst acc])) X) : EV c (tLc wi g tc te vs) ρ M Q X := fun S As σ H e m R k kx =>
  h S As σ H e m _ (fun items M1 As1 J H1 ⟨I, h0, hkp, hs, hd⟩ g1 m1 wk => by
    intro D hD
    obtain ⟨hSD, hAD⟩ := m1.fresh hD
    -- the new list is foreign meanwhile
    let S2 : Addr → Bool := fun a => S a || decide (a = D)
    have S2D : S2 D = true := by simp [S2]
    have hS2 : ∀ a, H1 a ≠ none → S2 a = true → S a = true := fun a ha hs => by
      have : a ≠ D := fun z => ha (z ▸ hD)
      simp [S2, this] at hs
      exact hs
    have upK : ∀ {As' : Ads} {H' : Hp}, Go As1 H1 As' H' → Kp (hmk S As1 H1) (hmk S2 As' H') := fun {As' H'} g' a o ha t => by
      obtain ⟨h1, h2, h3⟩ := hmk_some ha
      obtain ⟨n, kk⟩ := g'.kp a o h3 h2
      refine hmk_of ?_ n (kk t)
      have : a ≠ D := ne_of_none h3 hD
      simp [S2, h1, this]
    have up : ∀ {As' : Ads} {H' : Hp} {v : V} {s : Sl}, Go As1 H1 As' H' → SlR c.K S As1 H1 v s → SlR c.K S2 As' H' v s := fun {As' H' v s} g' r => by
      cases s with
      | un => trivial
      | v w => exact r
      | m i => obtain ⟨a, e, r⟩ := r; exact ⟨a, g'.ix e, r⟩
      | d x => exact dp_kp (upK g') x v r
      | f Φ => exact fun S' As2 H2 k => r S' As2 H2 ((upK g').trans k)
      | pr a b =>
        have part : ∀ {v : V} {x : PyData ⊕ Nat}, SlP c.K S As1 H1 v x → SlP c.K S2 As' H' v x := fun {v x} r => by
          cases x with
          | inl x => exact dp_kp (upK g') x v r
          | inr i => obtain ⟨a, e, r⟩ := r; exact ⟨a, g'.ix e, r⟩
        obtain ⟨p, v1, v2, e, h1, h2, h3⟩ := r
        exact ⟨p, v1, v2, e, upK g' _ _ h1 rfl, part h2, part h3⟩
      | ob C n1 n2 a b =>
        have part : ∀ {v : V} {x : PyData ⊕ Nat}, SlP c.K S As1 H1 v x → SlP c.K S2 As' H' v x := fun {v x} r => by
          cases x with
          | inl x => exact dp_kp (upK g') x v r
          | inr i => obtain ⟨a, e, r⟩ := r; exact ⟨a, g'.ix e, r⟩
        obtain ⟨p, dx, v1, v2, e, h1, h2, h3⟩ := r
        exact ⟨p, dx, v1, v2, e, upK g' _ _ h1 rfl, part h2, part h3⟩
    have upE : ∀ {As' : Ads} {H' : Hp}, Go As1 H1 As' H' → RE c.K S2 As' H' (wipe σ vs) (wipeS ρ vs) := fun {As' H'} g' => by
      have e0 := (e.go g1).wipe vs
      exact ⟨e0.len, fun i s hs n => by
        obtain ⟨v, h1, h2⟩ := e0.at_ i s hs n
        exact ⟨v, h1, up g' h2⟩⟩
    have g0 : Go As1 H1 As1 (upd H1 D (.lst [])) := go_new m1 hD
    have m0 : RM c.K c.T S2 As1 (upd H1 D (.lst [])) M1 := by
      have mm := m1.new (o := .lst []) hD
      refine ⟨mm.len, mm.nd, fun a ha => ?_, fun a ha => ?_, fun i a mo e1 e2 => ?_, mm.tb, fun a h w e => by
        by_cases z : a = D
        · rw [z, upd_same] at e; cases e; rfl
        · simp [S2, z] at h; exact mm.st a h w e⟩
      · have : a ≠ D := fun z => hAD (z ▸ ha)
        simp [S2, mm.sS a ha, this]
      · by_cases z : a = D
        · rw [z, upd_same]; exact fun z => nomatch z
        · simp [S2, z] at ha
          exact mm.sd a ha
      · have h0 := m1.at_ i a mo e1 e2
        have ne : a ≠ D := fun z => h0.dom (z ▸ hD)
        cases mo with
        | lst ds =>
          obtain ⟨z, ws, eH, q⟩ := h0
          refine ⟨z, ws, by rw [upd_ne ne]; exact eH, dpAll_kp (fun b o hb t => ?_) _ _ q⟩
          obtain ⟨h1, h2, h3⟩ := hmk_some hb
          have : b ≠ D := ne_of_none h3 hD
          exact hmk_of (by simp [S2, h1, this]) h2 (by rw [upd_ne this]; exact h3)
        | dd fz kv =>
          obtain ⟨z, ws, eH, q⟩ := h0
          refine ⟨z, ws, by rw [upd_ne ne]; exact eH, dpAll_kp (fun b o hb t => ?_) _ _ q⟩
          obtain ⟨h1, h2, h3⟩ := hmk_some hb
          have : b ≠ D := ne_of_none h3 hD
          exact hmk_of (by simp [S2, h1, this]) h2 (by rw [upd_ne this]; exact h3)
        | ho o => exact ⟨by rw [upd_ne ne]; exact h0.1, h0.2⟩
        | P φ =>
          obtain ⟨o', eo, t, q⟩ := h0
          exact ⟨o', by rw [upd_ne ne]; exact eo, t, q⟩
    refine ⟨fun i n H' => n = items.length - i ∧ i ≤ items.length ∧ ∃ As' acc M' ws, I i acc M' ∧ Go As1 H1 As' H' ∧ RM c.K c.T S2 As' H' M' ∧ H' D = some (.lst ws) ∧ D ∉ As' ∧ DpAll c.K (hmk S2 As' H') ws acc, ⟨_, rfl, Nat.zero_le _, As1, [], M1, [], h0, g0, m0, upd_same, hAD, .nil⟩, ?_⟩
    rintro i n H' ⟨rfl, hi, As', acc, M', ws, hI, g', m', eD, nD, rr⟩
    obtain ⟨hk, hz⟩ := hkp i acc M' hI
    obtain ⟨hstop, hgo⟩ := wk S2 As' H' M' hS2 g' m' hk
    have gg := g1.trans g'
    by_cases hlt : i < items.length
    · obtain ⟨go, step⟩ := hgo i _ (List.getElem?_eq_getElem hlt)
      refine .inr ⟨go, fun H2 => ∃ As2 acc2 M2 ws2, I (i + 1) acc2 M2 ∧ Go As1 H1 As2 H2 ∧ RM c.K c.T S2 As2 H2 M2 ∧ H2 D = some (.lst ws2) ∧ D ∉ As2 ∧ DpAll c.K (hmk S2 As2 H2) ws2 acc2, fun H2 hN => ⟨items.length - (i + 1), by omega, rfl, hlt, hN⟩, fun x H3 y => step x H3 y (wipe σ vs) _ fun us g3 m3 r3 hl => ⟨?_, ?_⟩⟩
      · rw [wipe_setV hjs, wipe_wipe]
      · have hb := hs i _ acc M' (List.getElem?_eq_getElem hlt) hI
        have e3 := (upE (g'.trans g3)).setD (js := js) r3
        refine hb S2 As' _ H3 e3 m3 _ (fun b M4 As4 H4 q4 g4 m4 => ?_) KX.none
        obtain ⟨n4, k4⟩ := (g3.trans g4).kp D _ eD nD
        have eD4 := k4 rfl
        have rr4 := dpAll_kp (g3.trans g4).kpm _ _ rr
        cases b with
        | false =>
          show ∃ As2 acc2 M2 ws2, _
          exact ⟨As4, acc, M4, ws, q4.2 rfl, (g'.trans g3).trans g4, m4, eD4, n4, rr4⟩
        | true =>
          show te _ H4 _
          refine q4.1 rfl S2 As4 _ H4 (e3.go g4) m4 _ (fun s M5 As5 w H5 ⟨d, es, hI5⟩ g5 m5 r5 => ?_) KX.none
          subst es
          obtain ⟨n5, k5⟩ := g5.kp D _ eD4 n4
          have eD5 := k5 rfl
          have rr5 := dpAll_kp g5.kpm _ _ rr4
          have hlen : ws.length = acc.length := dpAll_length rr
          obtain ⟨m6, tr⟩ := rm_foreign (o := .lst (ws ++ [w])) m5 S2D eD5 rfl (fun φ z => nomatch z)
          refine ⟨ws, eD5, by rw [hlen]; exact Nat.lt_of_lt_of_le hz (by decide), As5, acc ++ [d], M5, ws ++ [w], hI5, ?_, m6, upd_same, n5, ?_⟩
          · have g6 := ((g'.trans g3).trans g4).trans g5
            refine ⟨g6.pre, fun a o ha na => ?_, fun a ha => ?_⟩
            · obtain ⟨n6, k6⟩ := g6.kp a o ha na
              refine ⟨n6, fun t => ?_⟩
              rw [upd_ne (ne_of_none ha hD)]
              exact k6 t
            · by_cases z : a = D
              · rw [z, upd_same]; exact fun z => nomatch z
              · rw [upd_ne z]; exact g6.dm a ha
          · exact dpAll_append (dpAll_map_tr tr rr5) (.cons (tr r5) .nil)
    · have ei : i = items.length := by omega
      subst ei
      refine .inl ⟨hstop, ?_⟩
      have q := hd acc M' hI
      have hlen : ws.length = acc.length := dpAll_length rr
      have hmk_eq : hmk S2 As' H' = hmk S (As' ++ [D]) H' := by
        funext a
        unfold hmk
        simp [S2]
        have : (((S a = true ∨ a = D) ∨ a ∈ As') ↔ (S a = true ∨ (a ∈ As' ∨ a = D))) := by
          constructor
          · rintro ((h | h) | h)
            · exact .inl h
            · exact .inr (.inr h)
            · exact .inr (.inl h)
          · rintro (h | h | h)
            · exact .inl (.inl h)
            · exact .inr h
            · exact .inl (.inr h)
        simp only [this]
      have gF : Go As1 H1 (As' ++ [D]) H' := by
        obtain ⟨r, er⟩ := g'.pre
        refine ⟨⟨r ++ [D], by rw [er, List.append_assoc]⟩, fun a o ha na => ?_, g'.dm⟩
        obtain ⟨n6, k6⟩ := g'.kp a o ha na
        refine ⟨fun z => ?_, k6⟩
        rcases List.mem_append.mp z with z | z
        · exact n6 z
        · simp at z
          exact ne_of_none ha hD z
      have mF : RM c.K c.T S (As' ++ [D]) H' (M' ++ [.lst acc]) := by
        refine ⟨by rw [List.length_append, List.length_append, m'.len]; rfl, ?_, fun a ha => ?_, fun a ha => m'.sd a (by simp [S2, ha]), fun j a mo e1 e2 => ?_, m'.tb, fun a ha w e => m'.st a (by simp [S2, ha]) w e⟩
        · rw [List.nodup_append]
          refine ⟨m'.nd, by simp, fun a ha b hb => ?_⟩
          simp at hb
          subst hb
          exact fun z => nD (z ▸ ha)
        · rcases List.mem_append.mp ha with z | z
          · have := m'.sS a z
            simp [S2] at this
            exact this.1
          · simp at z; subst z; exact hSD
        · rcases mem_app_ix e1 with e | ⟨ej, ea⟩
          · have hj : j < M'.length := by rw [← m'.len]; exact (List.getElem?_eq_some_iff.mp e).1
            rw [List.getElem?_append_left hj] at e2
            have h0 := m'.at_ j a mo e e2
            cases mo with
            | lst ds =>
              obtain ⟨z, us, eu, q⟩ := h0
              exact ⟨z, us, eu, hmk_eq ▸ q⟩
            | dd fz kv =>
              obtain ⟨z, us, eu, q⟩ := h0
              exact ⟨z, us, eu, hmk_eq ▸ q⟩
            | ho o => exact h0
            | P φ => exact h0
          · subst ea
            rw [List.getElem?_append_right (by rw [ej, m'.len]; exact Nat.le_refl _)] at e2
            have z : j - M'.length = 0 := by rw [ej, m'.len]; omega
            rw [z] at e2
            simp at e2
            subst e2
            exact ⟨Nat.le_of_lt (Nat.lt_of_lt_of_le hz (by decide)), ws, eD, hmk_eq ▸ rr⟩
      exact k _ _ (As' ++ [D]) _ H' q (g1.trans gF) mF ⟨D, by rw [← m'.len]; simp, rfl⟩) kx
end
end DL

set_option Elab.async false
set_option linter.all false
set_option autoImplicit false
set_option maxRecDepth 100000
set_option maxHeartbeats 2000000
/-! DL: what is walked, built-in calls, calls of defs. -/
namespace DL
open PySem PySem.Spec PyProof.Rows L2

section
variable {c : Cn} {S : Addr → Bool} {As As1 : Ads} {H H1 : Hp} {M M1 : List MO} {ρ : List Sl} {σ : L2.St} {P P' : Po} {ta tb te : TE} {tt tu : TT} {t u : TS} {s : Sl} {v w : V} {Q : QS} {X : XP}
/-- data of the heap H are data of a later one, whoever looks -/
theorem later {S2 : Addr → Bool} {As2 : Ads} {H2 : Hp} (h1 : ∀ a, H a ≠ none → S2 a = true → S a = true) (g : Go As H As2 H2) : Kp (hmk S As H) (hmk S2 As2 H2) := fun a o h t => by
  obtain ⟨e1, e2, e3⟩ := hmk_some h
  obtain ⟨n, k⟩ := g.kp a o e3 e2
  refine hmk_of ?_ n (k t)
  cases q : S2 a with
  | false => rfl
  | true =>
    have := h1 a (by rw [e3]; exact fun z => nomatch z) q
    rw [e1] at this
    cases this
def ones (ds : List PyData) : List (List PyData) := ds.map fun d => [d]
theorem ones_get {ds : List PyData} {i : Nat} {es : List PyData} (h : (ones ds)[i]? = some es) : ∃ d, ds[i]? = some d ∧ es = [d] := by
  unfold ones at h
  rw [List.getElem?_map] at h
  cases e : ds[i]? with
  | none => rw [e] at h; cases h
  | some d =>
    rw [e] at h
    exact ⟨d, rfl, (Option.some.inj h).symm⟩
theorem ones_len (ds : List PyData) : (ones ds).length = ds.length := List.length_map _
theorem go_same {x : V} {d : PyData} {j : Nat} {σ2 : L2.St} {Q : L2.St → Hp → Prop} (m : RM c.K c.T S As H M) (r : Dp c.K (hmk S As H) x d)
    (q : ∀ vs, Go As H As H → RM c.K c.T S As H M → DpAll c.K (hmk S As H) vs [d] → vs.length = [j].length → Q (setV σ2 [j] vs) H) : gName j x σ2 H Q :=
  q [x] (.refl _ _) m (.cons r .nil) rfl
theorem walk_tup {a : Addr} {vs : List V} {ds : List PyData} {j : Nat} {kp : List MO → Prop} (h : SqT c.K (hmk S As H) a vs) (r : DpAll c.K (hmk S As H) vs ds) : Walk c (Itt c.K a) (gName j) S As H [j] (ones ds) kp := fun S2 As2 H2 M2 h1 g m _ => by
  have kk := later h1 g
  have hq := hmk_sqT (kk.sqT h)
  have hl := dpAll_length r
  refine ⟨⟨vs, hq, by rw [ones_len, hl]; exact Nat.le_refl _⟩, fun i es hi => ?_⟩
  obtain ⟨d, hd, rfl⟩ := ones_get hi
  obtain ⟨x, hx, rx⟩ := dpAll_get r hd
  refine ⟨⟨vs, x, hq, hx⟩, fun y H3 ⟨e3, ey⟩ σ2 Q q => ?_⟩
  subst e3
  have : y = x := Option.some.inj ((ey vs hq).symm.trans hx)
  subst this
  exact go_same m (dp_kp kk d _ rx) q
theorem walk_lst {a : Addr} {vs : List V} {ds : List PyData} {j : Nat} {kp : List MO → Prop} (h : SqL c.K (hmk S As H) a vs) (r : DpAll c.K (hmk S As H) vs ds) : Walk c (Itl c.K a) (gName j) S As H [j] (ones ds) kp := fun S2 As2 H2 M2 h1 g m _ => by
  have kk := later h1 g
  have hq := hmk_sqL (kk.sqL h)
  have hl := dpAll_length r
  refine ⟨⟨vs, hq, by rw [ones_len, hl]; exact Nat.le_refl _⟩, fun i es hi => ?_⟩
  obtain ⟨d, hd, rfl⟩ := ones_get hi
  obtain ⟨x, hx, rx⟩ := dpAll_get r hd
  refine ⟨⟨vs, x, hq, hx⟩, fun y H3 ⟨e3, ey⟩ σ2 Q q => ?_⟩
  subst e3
  have : y = x := Option.some.inj ((ey vs hq).symm.trans hx)
  subst this
  exact go_same m (dp_kp kk d _ rx) q
/-- an own list that stays -/
theorem walk_own {a : Addr} {ds : List PyData} {j n : Nat} (h : As[n]? = some a) : Walk c (Itl c.K a) (gName j) S As H [j] (ones ds) (fun M => M[n]? = some (.lst ds)) := fun S2 As2 H2 M2 h1 g m hk => by
  obtain ⟨b, eb, _, vs, eH, r⟩ := m.ex hk
  rw [g.ix h] at eb; cases eb
  have hq : SqL c.K H2 a vs := .inl (.inl eH)
  have hl := dpAll_length r
  refine ⟨⟨vs, hq, by rw [ones_len, hl]; exact Nat.le_refl _⟩, fun i es hi => ?_⟩
  obtain ⟨d, hd, rfl⟩ := ones_get hi
  obtain ⟨x, hx, rx⟩ := dpAll_get r hd
  refine ⟨⟨vs, x, hq, hx⟩, fun y H3 ⟨e3, ey⟩ σ2 Q q => ?_⟩
  subst e3
  have : y = x := Option.some.inj ((ey vs hq).symm.trans hx)
  subst this
  exact go_same m rx q
abbrev kp0 : List MO → Prop := fun _ => True
theorem it_tup {j : Nat} {Q : List (List PyData) → List MO → Prop} (h : EV c te ρ M (fun s M1 => ∃ ds, s = .d (.tuple ds) ∧ Q (ones ds) M1) X) : IT c (iTup c.K te) (gName j) ρ M [j] kp0 Q X := fun S As σ H e m R k kx =>
  h S As σ H e m _ (fun s M1 As1 v H1 ⟨ds, es, q⟩ g1 m1 r => by
    subst es
    obtain ⟨a, vs, rfl, h1, h2⟩ := dp_tup r
    exact ⟨a, rfl, ⟨vs, hmk_sqT h1⟩, k _ M1 As1 _ H1 q g1 m1 (walk_tup h1 h2)⟩) kx
theorem it_lst {j : Nat} {Q : List (List PyData) → List MO → Prop} (h : EV c te ρ M (fun s M1 => ∃ ds, s = .d (.list ds) ∧ Q (ones ds) M1) X) : IT c (iList c.K te) (gName j) ρ M [j] kp0 Q X := fun S As σ H e m R k kx =>
  h S As σ H e m _ (fun s M1 As1 v H1 ⟨ds, es, q⟩ g1 m1 r => by
    subst es
    obtain ⟨a, vs, rfl, h1, h2⟩ := dp_lst r
    exact ⟨a, rfl, ⟨vs, hmk_sqL h1⟩, k _ M1 As1 _ H1 q g1 m1 (walk_lst h1 h2)⟩) kx
theorem it_own {j i n : Nat} {ds : List PyData} {Q : List (List PyData) → List MO → Prop} (hx : ρ[i]? = some (.m n)) (hn : M[n]? = some (.lst ds)) (q : Q (ones ds) M) : IT c (iList c.K (tVar i)) (gName j) ρ M [j] (fun M => M[n]? = some (.lst ds)) Q X := fun S As σ H e m R k kx => by
  obtain ⟨v, e1, r⟩ := e.at_ i _ hx (fun z => nomatch z)
  obtain ⟨a, ea, rfl⟩ := r
  obtain ⟨b, eb, _, vs, eH, _⟩ := m.ex hn
  rw [ea] at eb; cases eb
  exact ⟨.ref a, e1, a, rfl, ⟨vs, .inl (.inl eH)⟩, k _ M As _ H q (.refl _ _) m (walk_own ea)⟩
def rngD (lo : Int) (n : Nat) : List PyData := (List.range n).map fun i => .int (lo + (i : Nat))
theorem rngD_len (lo : Int) (n : Nat) : (rngD lo n).length = n := by unfold rngD; rw [List.length_map, List.length_range]
theorem rngD_get {lo : Int} {n i : Nat} {d : PyData} (h : (rngD lo n)[i]? = some d) : i < n ∧ d = .int (lo + (i : Nat)) := by
  unfold rngD at h
  rw [List.getElem?_map] at h
  by_cases hi : i < n
  · rw [List.getElem?_range hi] at h
    exact ⟨hi, (Option.some.inj h).symm⟩
  · rw [List.getElem?_eq_none (by rw [List.length_range]; omega)] at h
    cases h
theorem walk_rng {lo : Int} {n : Nat} {j : Nat} {kp : List MO → Prop} : Walk c (Itr lo n) (gName j) S As H [j] (ones (rngD lo n)) kp := fun S2 As2 H2 M2 h1 g m _ => by
  refine ⟨by rw [ones_len, rngD_len]; exact Nat.le_refl _, fun i es hi => ?_⟩
  obtain ⟨d, hd, rfl⟩ := ones_get hi
  obtain ⟨hj, rfl⟩ := rngD_get hd
  refine ⟨hj, fun y H3 ⟨e3, ey⟩ σ2 Q q => ?_⟩
  subst e3; subst ey
  exact go_same m (.int _) q
theorem it_rng1 {j : Nat} {t : TA} {Q : List (List PyData) → List MO → Prop} (h : EA c t ρ M (fun ss M1 => ∃ n : Int, ss = [.d (.int n)] ∧ -1000000 ≤ n ∧ n ≤ 1000000 ∧ Q (ones (rngD 0 n.toNat)) M1) X) : IT c (iRng1 t) (gName j) ρ M [j] kp0 Q X := fun S As σ H e m R k kx =>
  h S As σ H e m _ (fun s M1 As1 vs H1 ⟨n, es, b1, b2, q⟩ g1 m1 r => by
    subst es
    cases r with
    | cons r1 r2 =>
      cases r2
      cases r1
      exact ⟨n, rfl, by omega, by omega, k _ M1 As1 _ H1 q g1 m1 walk_rng⟩) kx
theorem it_rng2 {j : Nat} {t : TA} {Q : List (List PyData) → List MO → Prop} (h : EA c t ρ M (fun ss M1 => ∃ lo n : Int, ss = [.d (.int lo), .d (.int n)] ∧ -1000000000000 ≤ lo ∧ lo ≤ 1000000000000 ∧ -1000000000000 ≤ n ∧ n ≤ 1000000000000 ∧ Q (ones (rngD lo (n - lo).toNat)) M1) X) : IT c (iRng2 t) (gName j) ρ M [j] kp0 Q X := fun S As σ H e m R k kx =>
  h S As σ H e m _ (fun s M1 As1 vs H1 ⟨lo, n, es, b1, b2, b3, b4, q⟩ g1 m1 r => by
    subst es
    cases r with
    | cons r1 r2 =>
      cases r2 with
      | cons r2 r3 =>
        cases r3
        cases r1
        cases r2
        exact ⟨lo, n, rfl, ⟨by omega, by omega, by omega, by omega⟩, k _ M1 As1 _ H1 q g1 m1 walk_rng⟩) kx
/-- pairs -/
def prs (as bs : List PyData) : List (List PyData) := (as.zip bs).map fun p => [p.1, p.2]
theorem prs_get {as bs : List PyData} {i : Nat} {es : List PyData} (h : (prs as bs)[i]? = some es) : ∃ a b, as[i]? = some a ∧ bs[i]? = some b ∧ es = [a, b] := by
  unfold prs at h
  rw [List.getElem?_map] at h
  cases e : (as.zip bs)[i]? with
  | none => rw [e] at h; cases h
  | some p =>
    rw [e] at h
    have := List.getElem?_zip_eq_some.mp e
    exact ⟨p.1, p.2, this.1, this.2, (Option.some.inj h).symm⟩
theorem prs_len (as bs : List PyData) : (prs as bs).length = min as.length bs.length := by
  unfold prs; rw [List.length_map, List.length_zip]
/-- a new pair, taken apart at once -/
theorem go_pair {T : Addr} {x y : V} {a b : PyData} {j k : Nat} {σ2 : L2.St} {Q : L2.St → Hp → Prop} (m : RM c.K c.T S As H M) (n : H T = none) (rx : Dp c.K (hmk S As H) x a) (ry : Dp c.K (hmk S As H) y b)
    (q : ∀ vs, Go As H As (upd H T (.tup [x, y])) → RM c.K c.T S As (upd H T (.tup [x, y])) M → DpAll c.K (hmk S As (upd H T (.tup [x, y]))) vs [a, b] → vs.length = [j, k].length → Q (setV σ2 [j, k] vs) (upd H T (.tup [x, y]))) :
    gTup c.K 2 (gCons (gName j) (gCons (gName k) gNil)) (.ref T) σ2 (upd H T (.tup [x, y])) Q := by
  have g := go_new (o := .tup [x, y]) m n
  exact ⟨T, [x, y], rfl, .inl (.inl upd_same), rfl, gN_run (js := [j, k]) rfl (q [x, y] g (m.new n) (.cons (dp_kp g.kpm _ _ rx) (.cons (dp_kp g.kpm _ _ ry) .nil)) rfl)⟩
theorem walk_enum {a : Addr} {vs : List V} {ds : List PyData} {j k : Nat} {kp : List MO → Prop} (h : SqL c.K (hmk S As H) a vs) (r : DpAll c.K (hmk S As H) vs ds) :
    Walk c (Ite c.K a) (gTup c.K 2 (gCons (gName j) (gCons (gName k) gNil))) S As H [j, k] (prs (rngD 0 ds.length) ds) kp := fun S2 As2 H2 M2 h1 g m _ => by
  have kk := later h1 g
  have hq := hmk_sqL (kk.sqL h)
  have hl := dpAll_length r
  refine ⟨⟨vs, hq, by rw [prs_len, rngD_len, hl, Nat.min_self]; exact Nat.le_refl _⟩, fun i es hi => ?_⟩
  obtain ⟨d1, d2, hd1, hd2, rfl⟩ := prs_get hi
  obtain ⟨hi, rfl⟩ := rngD_get hd1
  obtain ⟨x, hx, rx⟩ := dpAll_get r hd2
  refine ⟨⟨vs, x, hq, hx⟩, fun y H3 ⟨T, z, ey, nT, e3, hz⟩ σ2 Q q => ?_⟩
  subst ey; subst e3
  have : z = x := Option.some.inj ((hz vs hq).symm.trans hx)
  subst this
  rw [Int.zero_add] at q
  exact go_pair m nT (.int _) (dp_kp kk _ _ rx) q
theorem it_enum {j k : Nat} {t : TA} {Q : List (List PyData) → List MO → Prop} (h : EA c t ρ M (fun ss M1 => ∃ ds, ss = [.d (.list ds)] ∧ Q (prs (rngD 0 ds.length) ds) M1) X) :
    IT c (iEnum c.K t) (gTup c.K 2 (gCons (gName j) (gCons (gName k) gNil))) ρ M [j, k] kp0 Q X := fun S As σ H e m R kr kx =>
  h S As σ H e m _ (fun s M1 As1 vs H1 ⟨ds, es, q⟩ g1 m1 r => by
    subst es
    cases r with
    | cons r1 r2 =>
      cases r2
      obtain ⟨a, ws, rfl, h1, h2⟩ := dp_lst r1
      exact ⟨a, ws, rfl, hmk_sqL h1, kr _ M1 As1 _ H1 q g1 m1 (walk_enum h1 h2)⟩) kx
theorem walk_zipT {a b : Addr} {vs ws : List V} {ds es : List PyData} {j k : Nat} {kp : List MO → Prop} (h : SqT c.K (hmk S As H) a vs) (r : DpAll c.K (hmk S As H) vs ds) (h' : SqT c.K (hmk S As H) b ws) (r' : DpAll c.K (hmk S As H) ws es) :
    Walk c (RZ.ItzT c.K a b) (gTup c.K 2 (gCons (gName j) (gCons (gName k) gNil))) S As H [j, k] (prs ds es) kp := fun S2 As2 H2 M2 h1 g m _ => by
  have kk := later h1 g
  have hq := hmk_sqT (kk.sqT h)
  have hq' := hmk_sqT (kk.sqT h')
  have hl := dpAll_length r
  have hl' := dpAll_length r'
  refine ⟨⟨vs, ws, hq, hq', by rw [prs_len, hl, hl']; omega⟩, fun i us hi => ?_⟩
  obtain ⟨d1, d2, hd1, hd2, rfl⟩ := prs_get hi
  obtain ⟨x, hx, rx⟩ := dpAll_get r hd1
  obtain ⟨y, hy, ry⟩ := dpAll_get r' hd2
  refine ⟨⟨vs, ws, x, y, hq, hq', hx, hy⟩, fun z H3 ⟨T, x', y', ez, nT, e3, hx', hy'⟩ σ2 Q q => ?_⟩
  subst ez; subst e3
  have e1 : x' = x := Option.some.inj ((hx' vs hq).symm.trans hx)
  have e2 : y' = y := Option.some.inj ((hy' ws hq').symm.trans hy)
  subst e1; subst e2
  exact go_pair m nT (dp_kp kk _ _ rx) (dp_kp kk _ _ ry) q
theorem walk_zipL {a b : Addr} {vs ws : List V} {ds es : List PyData} {j k : Nat} {kp : List MO → Prop} (h : SqL c.K (hmk S As H) a vs) (r : DpAll c.K (hmk S As H) vs ds) (h' : SqL c.K (hmk S As H) b ws) (r' : DpAll c.K (hmk S As H) ws es) :
    Walk c (Itz c.K a b) (gTup c.K 2 (gCons (gName j) (gCons (gName k) gNil))) S As H [j, k] (prs ds es) kp := fun S2 As2 H2 M2 h1 g m _ => by
  have kk := later h1 g
  have hq := hmk_sqL (kk.sqL h)
  have hq' := hmk_sqL (kk.sqL h')
  have hl := dpAll_length r
  have hl' := dpAll_length r'
  refine ⟨⟨vs, ws, hq, hq', by rw [prs_len, hl, hl']; omega⟩, fun i us hi => ?_⟩
  obtain ⟨d1, d2, hd1, hd2, rfl⟩ := prs_get hi
  obtain ⟨x, hx, rx⟩ := dpAll_get r hd1
  obtain ⟨y, hy, ry⟩ := dpAll_get r' hd2
  refine ⟨⟨vs, ws, x, y, hq, hq', hx, hy⟩, fun z H3 ⟨T, x', y', ez, nT, e3, hx', hy'⟩ σ2 Q q => ?_⟩
  subst ez; subst e3
  have e1 : x' = x := Option.some.inj ((hx' vs hq).symm.trans hx)
  have e2 : y' = y := Option.some.inj ((hy' ws hq').symm.trans hy)
  subst e1; subst e2
  exact go_pair m nT (dp_kp kk _ _ rx) (dp_kp kk _ _ ry) q
theorem it_zipT {j k : Nat} {t : TA} {Q : List (List PyData) → List MO → Prop} (h : EA c t ρ M (fun ss M1 => ∃ ds es, ss = [.d (.tuple ds), .d (.tuple es)] ∧ Q (prs ds es) M1) X) :
    IT c (RZ.iZipA c.K t) (gTup c.K 2 (gCons (gName j) (gCons (gName k) gNil))) ρ M [j, k] kp0 Q X := fun S As σ H e m R kr kx =>
  h S As σ H e m _ (fun s M1 As1 vs H1 ⟨ds, es, ee, q⟩ g1 m1 r => by
    subst ee
    cases r with
    | cons r1 r2 =>
      cases r2 with
      | cons r2 r3 =>
        cases r3
        obtain ⟨a, vs, rfl, h1, h2⟩ := dp_tup r1
        obtain ⟨b, ws, rfl, h3, h4⟩ := dp_tup r2
        exact ⟨a, b, vs, ws, rfl, .inr ⟨hmk_sqT h1, hmk_sqT h3, kr _ M1 As1 _ H1 q g1 m1 (walk_zipT h1 h2 h3 h4)⟩⟩) kx
theorem it_zipL {j k : Nat} {t : TA} {Q : List (List PyData) → List MO → Prop} (h : EA c t ρ M (fun ss M1 => ∃ ds es, ss = [.d (.list ds), .d (.list es)] ∧ Q (prs ds es) M1) X) :
    IT c (RZ.iZipA c.K t) (gTup c.K 2 (gCons (gName j) (gCons (gName k) gNil))) ρ M [j, k] kp0 Q X := fun S As σ H e m R kr kx =>
  h S As σ H e m _ (fun s M1 As1 vs H1 ⟨ds, es, ee, q⟩ g1 m1 r => by
    subst ee
    cases r with
    | cons r1 r2 =>
      cases r2 with
      | cons r2 r3 =>
        cases r3
        obtain ⟨a, vs, rfl, h1, h2⟩ := dp_lst r1
        obtain ⟨b, ws, rfl, h3, h4⟩ := dp_lst r2
        exact ⟨a, b, vs, ws, rfl, .inl ⟨hmk_sqL h1, hmk_sqL h3, kr _ M1 As1 _ H1 q g1 m1 (walk_zipL h1 h2 h3 h4)⟩⟩) kx

/-! ### built-in calls: one place for all -/
/-- a reading of a call that gives data and changes nothing (new objects but data) -/
theorem dv_cb {r : List V → Hp → VK → Prop} {t : TA} {ds : List PyData} {z : PyData} (h : Da c t ρ M ds) (hr : RC c r (ds.map .d) M (fun s M' => s = .d z ∧ M' = M)) : Dv c (tCB r t) ρ M z := ev_cb (ea_da h hr)
theorem dl_cb {r : List V → Hp → VK → Prop} {t : TA} {ds : List PyData} {zs : List PyData} (h : Da c t ρ M ds) (hr : RC c r (ds.map .d) M (fun s M' => s = .m M.length ∧ M' = M ++ [.lst zs])) : Dl c (tCB r t) ρ M zs := ev_cb (ea_da h hr)
theorem slrs1 {x : Sl} {vs : List V} (h : SlRs c S As H vs [x]) : ∃ v, vs = [v] ∧ SlR c.K S As H v x := by
  cases h with
  | cons a b => cases b; exact ⟨_, rfl, a⟩
theorem slrs2 {x y : Sl} {vs : List V} (h : SlRs c S As H vs [x, y]) : ∃ v w, vs = [v, w] ∧ SlR c.K S As H v x ∧ SlR c.K S As H w y := by
  cases h with
  | cons a b =>
    obtain ⟨w, rfl, r⟩ := slrs1 b
    exact ⟨_, _, rfl, a, r⟩
def seqD : PyData → Option (List PyData)
  | .list ds => some ds
  | .tuple ds => some ds
  | _ => none
theorem dp_seq {K : PySem.W.Frag} {H : Hp} {v : V} {d : PyData} {ds : List PyData} (h : Dp K H v d) (e : seqD d = some ds) : ∃ a vs, v = .ref a ∧ (SqL K H a vs ∨ SqT K H a vs) ∧ DpAll K H vs ds := by
  cases h <;> first
    | (cases e; exact ⟨_, _, rfl, .inl (by assumption), by assumption⟩)
    | (cases e; exact ⟨_, _, rfl, .inr (by assumption), by assumption⟩)
    | cases e
def rLen (K : PySem.W.Frag) : List V → Hp → VK → Prop := fun xs H Q => ∃ p ys, xs = [.ref p] ∧ (SqL K H p ys ∨ SqT K H p ys) ∧ Q (.int ys.length) H
theorem dv_len {ds : List PyData} {x : PyData} (h : Dv c ta ρ M x) (hx : seqD x = some ds) : Dv c (tCB (fun xs H Q => ∃ p ys, xs = [.ref p] ∧ (SqL c.K H p ys ∨ SqT c.K H p ys) ∧ Q (.int ys.length) H) (tCons ta tNil)) ρ M (.int ds.length) :=
  dv_cb (da_cons h da_nil) fun S As H vs hv m R k => by
    obtain ⟨v, rfl, r⟩ := slrs1 hv
    obtain ⟨a, ws, rfl, h1, h2⟩ := dp_seq r.dp hx
    refine ⟨a, ws, rfl, h1, ?_⟩
    rw [dpAll_length h2]
    exact k.here ⟨rfl, rfl⟩ m (.int _)
/-- of an own list -/
theorem dv_lenM {n j : Nat} {ds : List PyData} (hx : ρ[n]? = some (.m j)) (hj : M[j]? = some (.lst ds)) : Dv c (tCB (fun xs H Q => ∃ p ys, xs = [.ref p] ∧ (SqL c.K H p ys ∨ SqT c.K H p ys) ∧ Q (.int ys.length) H) (tCons (tVar n) tNil)) ρ M (.int ds.length) :=
  ev_cb (ea_cons (ev_var hx (fun z => nomatch z) (ea_nil fun S As H vs hv m R k => by
    obtain ⟨v, rfl, r⟩ := slrs1 hv
    obtain ⟨a, ea, rfl⟩ := r
    obtain ⟨b, eb, _, ws, eH, r⟩ := m.ex hj
    rw [ea] at eb; cases eb
    refine ⟨a, ws, rfl, .inl (.inl (.inl eH)), ?_⟩
    rw [dpAll_length r]
    exact k.here ⟨rfl, rfl⟩ m (.int _))))
theorem dp_bls {K : PySem.W.Frag} {H : Hp} : ∀ {bs : List Bool} {vs : List V}, DpAll K H vs (bs.map .bool) → vs = bs.map .bl
  | [], vs, h => by cases h; rfl
  | n :: ns, vs, h => by
    have h' : DpAll K H vs (.bool n :: ns.map .bool) := h
    cases h' with
    | cons h1 h2 =>
      cases h1
      rw [dp_bls h2]; rfl
theorem dv_all {bs : List Bool} (h : Dv c ta ρ M (.list (bs.map .bool))) : Dv c (tCB (rAll c.K) (tCons ta tNil)) ρ M (.bool (bs.all id)) :=
  dv_cb (da_cons h da_nil) fun S As H vs hv m R k => by
    obtain ⟨v, rfl, r⟩ := slrs1 hv
    obtain ⟨a, ws, rfl, h1, h2⟩ := dp_lst r.dp
    have := dp_bls h2
    subst this
    exact ⟨a, bs, rfl, h1, k.here ⟨rfl, rfl⟩ m (.bl _)⟩
theorem dv_any {bs : List Bool} (h : Dv c ta ρ M (.list (bs.map .bool))) : Dv c (tCB (rAny c.K) (tCons ta tNil)) ρ M (.bool (bs.any id)) :=
  dv_cb (da_cons h da_nil) fun S As H vs hv m R k => by
    obtain ⟨v, rfl, r⟩ := slrs1 hv
    obtain ⟨a, ws, rfl, h1, h2⟩ := dp_lst r.dp
    have := dp_bls h2
    subst this
    exact ⟨a, bs, rfl, h1, k.here ⟨rfl, rfl⟩ m (.bl _)⟩
theorem dv_sum {ns : List Int} (h : Dv c ta ρ M (.list (ns.map .int))) : Dv c (tCB (rSum c.K) (tCons ta tNil)) ρ M (.int ns.sum) :=
  dv_cb (da_cons h da_nil) fun S As H vs hv m R k => by
    obtain ⟨v, rfl, r⟩ := slrs1 hv
    obtain ⟨a, ws, rfl, h1, h2⟩ := dp_lst r.dp
    have := dp_ints h2
    subst this
    exact ⟨a, ns, rfl, h1, k.here ⟨rfl, rfl⟩ m (.int _)⟩
theorem dv_min2 {i j : Int} (h : Dv c ta ρ M (.int i)) (h' : Dv c tb ρ M (.int j)) : Dv c (tCB (fun xs H Q => ∃ i j, xs = [.int i, .int j] ∧ Q (.int (if j < i then j else i)) H) (tCons ta (tCons tb tNil))) ρ M (.int (min i j)) :=
  dv_cb (da_cons h (da_cons h' da_nil)) fun S As H vs hv m R k => by
    obtain ⟨v, w, rfl, r1, r2⟩ := slrs2 hv
    cases r1; cases r2
    have e : (if j < i then j else i) = min i j := by
      rw [Int.min_def]
      split <;> split <;> omega
    refine ⟨i, j, rfl, ?_⟩
    rw [e]
    exact k.here ⟨rfl, rfl⟩ m (.int _)
theorem dv_max2 {i j : Int} (h : Dv c ta ρ M (.int i)) (h' : Dv c tb ρ M (.int j)) : Dv c (tCB (fun xs H Q => ∃ i j, xs = [.int i, .int j] ∧ Q (.int (if j > i then j else i)) H) (tCons ta (tCons tb tNil))) ρ M (.int (max i j)) :=
  dv_cb (da_cons h (da_cons h' da_nil)) fun S As H vs hv m R k => by
    obtain ⟨v, w, rfl, r1, r2⟩ := slrs2 hv
    cases r1; cases r2
    have e : (if j > i then j else i) = max i j := by
      rw [Int.max_def]
      split <;> split <;> omega
    refine ⟨i, j, rfl, ?_⟩
    rw [e]
    exact k.here ⟨rfl, rfl⟩ m (.int _)
theorem dv_intB {b : Bool} (h : Dv c ta ρ M (.bool b)) : Dv c (tCB (fun xs H Q => (∃ i, xs = [.int i] ∧ Q (.int i) H) ∨ ∃ k, xs = [.bl k] ∧ Q (.int (if k then 1 else 0)) H) (tCons ta tNil)) ρ M (.int (if b then 1 else 0)) :=
  dv_cb (da_cons h da_nil) fun S As H vs hv m R k => by
    obtain ⟨v, rfl, r⟩ := slrs1 hv
    cases r
    exact .inr ⟨b, rfl, k.here ⟨rfl, rfl⟩ m (.int _)⟩
/-- tuple(list), tuple(tuple) -/
def rTupOf (K : PySem.W.Frag) : List V → Hp → VK → Prop := fun xs H Q => ∃ p ys, xs = [.ref p] ∧ ((SqL K H p ys ∧ ∀ l, H l = none → Q (.ref l) (upd H l (.tup ys))) ∨ (SqT K H p ys ∧ Q (.ref p) H))
theorem new_tup {R : VK} {p : Addr} {vs : List V} {ds : List PyData} (m : RM c.K c.T S As H M) (n : H p = none) (r : DpAll c.K (hmk S As H) vs ds) (k : KS c S As H Q R) (q : Q (.d (.tuple ds)) M) : R (.ref p) (upd H p (.tup vs)) := by
  have g2 := go_new (o := .tup vs) m n
  obtain ⟨hs, hn⟩ := m.fresh n
  exact k _ M As _ _ q g2 (m.new n) (.tup (.inl (.inl (hmk_of hs hn upd_same))) (dpAll_kp g2.kpm _ _ r))
theorem dv_tupleL {ds : List PyData} (h : Dv c ta ρ M (.list ds)) : Dv c (tCB (fun xs H Q => ∃ p ys, xs = [.ref p] ∧ ((SqL c.K H p ys ∧ ∀ l, H l = none → Q (.ref l) (upd H l (.tup ys))) ∨ (SqT c.K H p ys ∧ Q (.ref p) H))) (tCons ta tNil)) ρ M (.tuple ds) :=
  dv_cb (da_cons h da_nil) fun S As H vs hv m R k => by
    obtain ⟨v, rfl, r⟩ := slrs1 hv
    obtain ⟨a, ws, rfl, h1, h2⟩ := dp_lst r
    exact ⟨a, ws, rfl, .inl ⟨hmk_sqL h1, fun l hl => new_tup m hl h2 k ⟨rfl, rfl⟩⟩⟩
theorem dv_tupleM {n j : Nat} {ds : List PyData} (hx : ρ[n]? = some (.m j)) (hj : M[j]? = some (.lst ds)) : Dv c (tCB (fun xs H Q => ∃ p ys, xs = [.ref p] ∧ ((SqL c.K H p ys ∧ ∀ l, H l = none → Q (.ref l) (upd H l (.tup ys))) ∨ (SqT c.K H p ys ∧ Q (.ref p) H))) (tCons (tVar n) tNil)) ρ M (.tuple ds) :=
  ev_cb (ea_cons (ev_var hx (fun z => nomatch z) (ea_nil fun S As H vs hv m R k => by
    obtain ⟨v, rfl, r⟩ := slrs1 hv
    obtain ⟨a, ea, rfl⟩ := r
    obtain ⟨b, eb, _, ws, eH, r⟩ := m.ex hj
    rw [ea] at eb; cases eb
    exact ⟨a, ws, rfl, .inl ⟨.inl (.inl eH), fun l hl => new_tup m hl r k ⟨rfl, rfl⟩⟩⟩)))
theorem dl_list {ds : List PyData} {x : PyData} (h : Dv c ta ρ M x) (hx : seqD x = some ds) (hl : ds.length ≤ sizeLine) : Dl c (tCB (fun xs H Q => ∃ p ys, xs = [.ref p] ∧ (SqL c.K H p ys ∨ SqT c.K H p ys) ∧ ∀ l, H l = none → Q (.ref l) (upd H l (.lst ys))) (tCons ta tNil)) ρ M ds :=
  dl_cb (da_cons h da_nil) fun S As H vs hv m R k => by
    obtain ⟨v, rfl, r⟩ := slrs1 hv
    obtain ⟨a, ws, rfl, h1, h2⟩ := dp_seq r hx
    refine ⟨a, ws, rfl, ?_, fun l hl' => own_new m hl' hl h2 k ⟨rfl, rfl⟩⟩
    rcases h1 with h1 | h1
    · exact .inl (hmk_sqL h1)
    · exact .inr (hmk_sqT h1)
/-- list(range(..)) -/
theorem rgV_ints (a b : Int) : rgV a b = (rngD a (b - a).toNat).map (fun d => match d with | .int i => .int i | _ => .non) := by
  unfold rgV rngD
  rw [List.map_map]
  rfl
theorem dpAll_rg {K : PySem.W.Frag} {H : Hp} (a b : Int) : DpAll K H (rgV a b) (rngD a (b - a).toNat) := by
  unfold rgV rngD
  induction (List.range (b - a).toNat) with
  | nil => exact .nil
  | cons x xs ih => exact .cons (.int _) ih
theorem dl_listRg1 {n : Int} (h : Dv c ta ρ M (.int n)) (h0 : 0 ≤ n) (h1 : n ≤ 100000) : Dl c (tLstRg (tRg1 ta)) ρ M (rngD 0 n.toNat) := fun S As σ H e m R k _ =>
  h S As σ H e m _ (fun s M' As' v H' ⟨e1, e2⟩ g m' r => by
    subst e1; subst e2
    cases r
    refine ⟨n, rfl, RgOk.of_le (Int.le_refl 0) (by omega) (by decide) h0, fun q hq => ?_⟩
    have hd := dpAll_rg (K := c.K) (H := hmk S As' H') 0 n
    rw [Int.sub_zero] at hd
    exact own_new m' hq (by rw [rngD_len]; exact Nat.le_of_lt (Nat.lt_of_lt_of_le (show n.toNat < 100001 by omega) (by decide))) hd (k.go g) ⟨rfl, rfl⟩) KX.none
theorem dl_listRg2 {a b : Int} (h : Dv c ta ρ M (.int a)) (h' : Dv c tb ρ M (.int b)) (h0 : 0 ≤ a) (h2 : a ≤ 100000) (h3 : 0 ≤ b) (h1 : b ≤ 100000) : Dl c (tLstRg (tRg2 ta tb)) ρ M (rngD a (b - a).toNat) := fun S As σ H e m R k _ =>
  h S As σ H e m _ (fun s M' As' v H' ⟨e1, e2⟩ g m' r => by
    subst e1; subst e2
    cases r
    refine h' S As' σ H' (e.go g) m' _ (fun s M2 As2 v H2 ⟨e1, e2⟩ g2 m2 r2 => ?_) KX.none
    subst e1; subst e2
    cases r2
    refine ⟨a, b, rfl, rfl, RgOk.of_le h0 (by omega) (by omega) h3, fun q hq => ?_⟩
    exact own_new m2 hq (by rw [rngD_len]; exact Nat.le_of_lt (Nat.lt_of_lt_of_le (show (b - a).toNat < 100001 by omega) (by decide))) (dpAll_rg a b) ((k.go g).go g2) ⟨rfl, rfl⟩) KX.none
theorem dv_tupRg1 {n : Int} (h : Dv c ta ρ M (.int n)) (h0 : 0 ≤ n) (h1 : n ≤ 100000) : Dv c (tTupRg (tRg1 ta)) ρ M (.tuple (rngD 0 n.toNat)) := fun S As σ H e m R k _ =>
  h S As σ H e m _ (fun s M' As' v H' ⟨e1, e2⟩ g m' r => by
    subst e1; subst e2
    cases r
    refine ⟨n, rfl, RgOk.of_le (Int.le_refl 0) (by omega) (by decide) h0, fun q hq => ?_⟩
    have hd := dpAll_rg (K := c.K) (H := hmk S As' H') 0 n
    rw [Int.sub_zero] at hd
    exact new_tup m' hq hd (k.go g) ⟨rfl, rfl⟩) KX.none
/-! ### isinstance -/
def tyD : PyData → String
  | .none => "NoneType"
  | .bool _ => "bool"
  | .int _ => "int"
  | .str _ => "str"
  | .list _ => "list"
  | .tuple _ => "tuple"
  | .dict _ => "dict"
theorem dp_ty {K : PySem.W.Frag} {H : Hp} {v : V} {d : PyData} (h : Dp K H v d) : TyX K H v (.type (tyD d)) := by
  cases h with
  | non => exact .base .non
  | bl b => exact .base (.bl b)
  | int i => exact .base (.int i)
  | str x => exact .base (.str x)
  | lst h1 h2 =>
    rcases h1 with (h1 | ⟨o, h1⟩) | ⟨o, its, n, h1, h2, h3, h4, _⟩
    · exact .base (.lst h1)
    · exact .base (.frz h1)
    · exact .kList h1 h2
  | tup h1 h2 =>
    rcases h1 with (h1 | ⟨o, h1⟩) | ⟨o, its, n, h1, h2, h3, _⟩
    · exact .base (.tup h1)
    · exact .fTuple h1
    · exact .kTuple h1 h2
theorem dv_isi {x : PyData} {T : String} {b : Bool} (h : Dv c ta ρ M x) (hk : kitB (tyD x) T = some b) : Dv c (tCB (rIsi c.K) (tCons ta (tCons (tC (.ty T)) tNil))) ρ M (.bool b) :=
  ev_cb (ea_cons (ev_dv h (ea_cons (ev_c (s := .v (.ty T)) (fun _ _ _ => rfl) (ea_nil fun S As H vs hv m R k => by
    obtain ⟨v, w, rfl, r1, r2⟩ := slrs2 hv
    cases r2
    exact ⟨v, .ty T, .type (tyD x), .type T, b, rfl, .ty T, dp_ty (SlR.dp r1), kit_ty hk, k.here ⟨rfl, rfl⟩ m (.bl _)⟩)))))
end
end DL

set_option Elab.async false
set_option linter.all false
set_option autoImplicit false
set_option maxRecDepth 100000
set_option maxHeartbeats 2000000
/-! DL: defs, calls of them, raise, try. -/
namespace DL
open PySem PySem.Spec PyProof.Rows L2

/-- what a def is told to do: arguments, own objects handed in, what is wanted of the answer, of an exception -/
abbrev Wd := List Sl → List MO → QS → XP → Prop
def spW (K : PySem.W.Frag) (T : List NdefX.NTab) (W : Wd) : Sp := fun vs H Q E => ∃ S As ρ M Q0 X0, SlRs ⟨K, T, fun _ => E⟩ S As H vs ρ ∧ RM K T S As H M ∧ W ρ M Q0 X0 ∧
  (∀ s M', Q0 s M' → ∀ As' v H', Go As H As' H' → RM K T S As' H' M' → SlR K S As' H' v s → Q v H') ∧ ∀ C M', X0 C M' → ∀ As' H', Go As H As' H' → RM K T S As' H' M' → E (.ref C) none H'
def unS : Nat → List Sl
  | 0 => []
  | n + 1 => .un :: unS n
theorem unS_len : ∀ n, (unS n).length = n
  | 0 => rfl
  | n + 1 => by unfold unS; rw [List.length_cons, unS_len n]
theorem unS_get : ∀ {n i : Nat} {s : Sl}, (unS n)[i]? = some s → s = .un
  | 0, i, s, h => by simp [unS] at h
  | n + 1, 0, s, h => by simp [unS] at h; exact h.symm
  | n + 1, i + 1, s, h => unS_get (n := n) (i := i) (by simpa [unS] using h)
section
variable {c : Cn} {S : Addr → Bool} {As As1 : Ads} {H H1 : Hp} {M M1 : List MO} {ρ : List Sl} {σ : L2.St} {P P' : Po} {ta tb te : TE} {tt tu : TT} {t u : TS} {s : Sl} {v w : V} {Q : QS} {X : XP}
theorem slrs_len : ∀ {vs : List V} {ss : List Sl}, SlRs c S As H vs ss → vs.length = ss.length
  | _, _, .nil => rfl
  | _, _, .cons _ t => by rw [List.length_cons, List.length_cons, slrs_len t]
theorem slrs_get : ∀ {vs : List V} {ss : List Sl} {i : Nat} {s : Sl}, SlRs c S As H vs ss → ss[i]? = some s → ∃ v, vs[i]? = some v ∧ SlR c.K S As H v s
  | _, _, _, _, .nil, e => by simp at e
  | _, _, 0, _, .cons h _, e => by
    simp at e; subst e
    exact ⟨_, rfl, h⟩
  | _, _, i + 1, _, .cons _ t, e => by
    obtain ⟨v, h1, h2⟩ := slrs_get (i := i) t (by simpa using e)
    exact ⟨v, by simpa using h1, h2⟩
theorem re_start {N : List Str} {vs : List V} {ss : List Sl} (h : SlRs c S As H vs ss) (hN : ss.length ≤ N.length) : RE c.K S As H (L2.start N vs) (ss ++ unS (N.length - ss.length)) := by
  have hl := slrs_len h
  unfold L2.start
  refine ⟨by rw [List.length_append, List.length_append, List.length_map, List.length_replicate, unS_len, hl], fun i s e n => ?_⟩
  by_cases hi : i < ss.length
  · rw [List.getElem?_append_left hi] at e
    obtain ⟨v, e1, r⟩ := slrs_get h e
    exact ⟨v, by rw [List.getElem?_append_left (by rw [List.length_map, hl]; exact hi), List.getElem?_map, e1]; rfl, r⟩
  · rw [List.getElem?_append_right (by omega)] at e
    exact absurd (unS_get e) n
end

section
variable {P : Program} {w : World} {K : PySem.W.Frag} {mg : Str → Option Value} {base : Heap} {T : List NdefX.NTab}
/-- a def keeps its word: its body as a term, and what that does to data -/
theorem fn_ok {x qual : Str} {st : Stmt} {f : Addr} {fd : FuncData} {N ps : List Str} {k : Nat} {W : Wd} (F : Fun K x qual st f fd) (S : FnScope N ps (defScope st)) (len : ∀ ρ M Q X, W ρ M Q X → ρ.length = ps.length) (hN : ps.length ≤ N.length)
    (hbody : ∀ (cdv : Value) (A : Around) (outer : List Env) (s : Shared) (H : Hp) (E : XK), Room k (A.deeper (envOfC qual (defScope st) s.heap.objs.size f cdv)) →
      ∃ t, PSs (cxOf (L2N.CX P w) P w K mg base N qual (defScope st) f cdv A outer s H E) (defBody st) t ∧
        ∀ ρ M Q X, W ρ M Q X → EX ⟨K, T, fun _ => E⟩ t (ρ ++ unS (N.length - ρ.length)) M { nx := fun _ M' => Q (.d .none) M', rt := Q, xp := fun C _ M' => X C M' }) :
    FnOk P w K mg base (L2N.CX P w) (k + 1) f fd ps (spW K T W) := by
  refine okXN F S (fun vs H Q E h => ?_) (fun cdv A outer s H vs Q E hr h => ?_)
  · obtain ⟨S, As, ρ, M, Q0, X0, r, m, w, _⟩ := h
    rw [slrs_len r, len _ _ _ _ w]
  · obtain ⟨t, ht, ht'⟩ := hbody cdv A outer s H E hr
    refine ⟨t, ht, ?_⟩
    obtain ⟨S, As, ρ, M, Q0, X0, r, m, w, kq, kx⟩ := h
    have hl := len _ _ _ _ w
    refine ht' ρ M _ _ w S As _ H (re_start r (by rw [hl]; exact hN)) m _ (fun ρ' M' As' σ' H' q g e m' => ?_) (fun s M' As' v H' q g m' r => ?_) (fun _ _ _ _ _ q => q.elim) (fun _ _ _ _ _ q => q.elim) (fun C ρ' M' As' σ' H' q g e m' => ?_)
    · exact kq _ _ q As' .non H' g m' .non
    · exact kq _ _ q As' v H' g m' r
    · exact kx _ _ q As' H' g m'
/-- .. that raises nothing -/
theorem fn_ok0 {x qual : Str} {st : Stmt} {f : Addr} {fd : FuncData} {N ps : List Str} {k : Nat} {W : Wd} (F : Fun K x qual st f fd) (S : FnScope N ps (defScope st)) (len : ∀ ρ M Q X, W ρ M Q X → ρ.length = ps.length) (hN : ps.length ≤ N.length)
    (hbody : ∀ (cdv : Value) (A : Around) (outer : List Env) (s : Shared) (H : Hp) (E : XK), Room k (A.deeper (envOfC qual (defScope st) s.heap.objs.size f cdv)) →
      ∃ t, PSs (cxOf CX0 P w K mg base N qual (defScope st) f cdv A outer s H E).nox (defBody st) t ∧
        ∀ ρ M Q X, W ρ M Q X → EX ⟨K, T, fun _ => E⟩ t (ρ ++ unS (N.length - ρ.length)) M { nx := fun _ M' => Q (.d .none) M', rt := Q, xp := fun C _ M' => X C M' }) :
    FnOk P w K mg base CX0 (k + 1) f fd ps (spW K T W) := by
  refine F.ok S (fun vs H Q E h => ?_) (fun cdv A outer s H vs Q E hr h => ?_)
  · obtain ⟨S, As, ρ, M, Q0, X0, r, m, w, _⟩ := h
    rw [slrs_len r, len _ _ _ _ w]
  · obtain ⟨t, ht, ht'⟩ := hbody cdv A outer s H E hr
    refine ⟨t, ht, ?_⟩
    obtain ⟨S, As, ρ, M, Q0, X0, r, m, w, kq, kx⟩ := h
    have hl := len _ _ _ _ w
    refine ht' ρ M _ _ w S As _ H (re_start r (by rw [hl]; exact hN)) m _ (fun ρ' M' As' σ' H' q g e m' => ?_) (fun s M' As' v H' q g m' r => ?_) (fun _ _ _ _ _ q => q.elim) (fun _ _ _ _ _ q => q.elim) (fun C ρ' M' As' σ' H' q g e m' => ?_)
    · exact kq _ _ q As' .non H' g m' .non
    · exact kq _ _ q As' v H' g m' r
    · exact kx _ _ q As' H' g m'
end

section
variable {c : Cn} {S : Addr → Bool} {As As1 : Ads} {H H1 : Hp} {M M1 : List MO} {ρ : List Sl} {σ : L2.St} {P P' : Po} {ta tb te : TE} {tt tu : TT} {t u : TS} {s : Sl} {v w : V} {Q : QS} {X : XP}
/-! ### a call that is handed data alone -/
def notM : Sl → Prop
  | .m _ => False
  | .pr _ _ => False
  | .ob _ _ _ _ _ => False
  | _ => True
/-- a callee's own objects come behind the caller's -/
def shP (n : Nat) : PyData ⊕ Nat → PyData ⊕ Nat
  | .inr i => .inr (i + n)
  | x => x
def shS (n : Nat) : Sl → Sl
  | .m i => .m (i + n)
  | .pr a b => .pr (shP n a) (shP n b)
  | .ob C n1 n2 a b => .ob C n1 n2 (shP n a) (shP n b)
  | s => s
/-- hidden for the callee: what is hidden here, and what is own here -/
def hidS (S : Addr → Bool) (As : Ads) : Addr → Bool := fun a => S a || decide (a ∈ As)
theorem hidS_hmk : hmk (hidS S As) As1 H = hmk S (As ++ As1) H := by
  funext a
  unfold hmk hidS
  have : ((S a || decide (a ∈ As)) = true ∨ a ∈ As1) ↔ (S a = true ∨ a ∈ As ++ As1) := by
    rw [Bool.or_eq_true, decide_eq_true_eq, List.mem_append, or_assoc]
  simp only [this]
theorem hidS_nil : hmk (hidS S As) [] H = hmk S As H := by rw [hidS_hmk, List.append_nil]
theorem slr_in (h : SlR c.K S As H v s) (n : notM s) : SlR c.K (hidS S As) [] H v s := by
  cases s with
  | un => trivial
  | d x =>
    show Dp _ _ _ _
    rw [hidS_nil]
    exact h
  | v w => exact h
  | f Φ => exact fun S' As' H' k => h S' As' H' (by rw [hidS_nil] at k; exact k)
  | m i => exact n.elim
  | pr a b => exact n.elim
  | ob C n1 n2 a b => exact n.elim
theorem slrs_in : ∀ {vs : List V} {ss : List Sl}, SlRs c S As H vs ss → (∀ s ∈ ss, notM s) → SlRs c (hidS S As) [] H vs ss
  | _, _, .nil, _ => .nil
  | _, _, .cons a b, n => .cons (slr_in a (n _ List.mem_cons_self)) (slrs_in b fun s hs => n s (List.mem_cons_of_mem _ hs))
theorem rm_in (m : RM c.K c.T S As H M) : RM c.K c.T (hidS S As) [] H [] := by
  refine ⟨rfl, List.nodup_nil, fun a ha => absurd ha (by simp), fun a ha => ?_, fun i a mo e _ => (by simp at e), m.tb, fun a ha w e => by
    unfold hidS at ha
    rw [Bool.or_eq_true, decide_eq_true_eq] at ha
    rcases ha with ha | ha
    · exact m.st a ha w e
    · exact m.ntA ha e⟩
  unfold hidS at ha
  rw [Bool.or_eq_true, decide_eq_true_eq] at ha
  rcases ha with ha | ha
  · exact m.sd a ha
  · exact m.dom ha
theorem go_out {As' : Ads} {H' : Hp} {M' : List MO} (m : RM c.K c.T S As H M) (g : Go [] H As' H') (m' : RM c.K c.T (hidS S As) As' H' M') :
    Go As H (As ++ As') H' ∧ RM c.K c.T S (As ++ As') H' (M ++ M') ∧ ∀ {v : V} {s : Sl}, SlR c.K (hidS S As) As' H' v s → SlR c.K S (As ++ As') H' v (shS M.length s) := by
  have gF : Go As H (As ++ As') H' := by
    refine ⟨⟨As', rfl⟩, fun a o h na => ?_, g.dm⟩
    obtain ⟨n, k⟩ := g.kp a o h (by simp)
    refine ⟨fun z => ?_, k⟩
    rcases List.mem_append.mp z with z | z
    · exact na z
    · exact n z
  have apart : ∀ a ∈ As', S a = false ∧ a ∉ As := fun a ha => by
    have := m'.sS a ha
    unfold hidS at this
    rw [Bool.or_eq_false_iff, decide_eq_false_iff_not] at this
    exact this
  refine ⟨gF, ⟨by rw [List.length_append, List.length_append, m.len, m'.len], ?_, fun a ha => ?_, fun a ha => g.dm a (m.sd a ha), fun i a mo e1 e2 => ?_, m'.tb, fun a ha w e => m'.st a (by unfold hidS; rw [ha]; rfl) w e⟩, fun {v s} r => ?_⟩
  · rw [List.nodup_append]
    exact ⟨m.nd, m'.nd, fun a ha b hb z => (apart b hb).2 (z ▸ ha)⟩
  · rcases List.mem_append.mp ha with z | z
    · exact m.sS a z
    · exact (apart a z).1
  · by_cases hi : i < As.length
    · rw [List.getElem?_append_left hi] at e1
      rw [List.getElem?_append_left (by rw [← m.len]; exact hi)] at e2
      have h0 := m.at_ i a mo e1 e2
      cases mo with
      | lst ds =>
        obtain ⟨z, vs, e, q⟩ := h0
        exact ⟨z, vs, (g.kp a _ e (by simp)).2 rfl, dpAll_kp gF.kpm _ _ q⟩
      | dd fz kv =>
        obtain ⟨z, vs, e, q⟩ := h0
        exact ⟨z, vs, (g.kp a _ e (by simp)).2 (dkO_t _ _), dpAll_kp gF.kpm _ _ q⟩
      | ho o => exact ⟨(g.kp a _ h0.1 (by simp)).2 h0.2.1, h0.2⟩
      | P φ =>
        obtain ⟨o', eo, t, q⟩ := h0
        exact ⟨o', (g.kp a _ eo (by simp)).2 t, t, q⟩
    · rw [List.getElem?_append_right (by omega)] at e1
      rw [List.getElem?_append_right (by rw [← m.len]; omega), ← m.len] at e2
      have h0 := m'.at_ _ a mo e1 e2
      cases mo with
      | lst ds =>
        obtain ⟨z, vs, e, q⟩ := h0
        exact ⟨z, vs, e, hidS_hmk ▸ q⟩
      | dd fz kv =>
        obtain ⟨z, vs, e, q⟩ := h0
        exact ⟨z, vs, e, hidS_hmk ▸ q⟩
      | ho o => exact h0
      | P φ => exact h0
  · cases s with
    | un => trivial
    | d x =>
      show Dp _ _ _ _
      rw [← hidS_hmk]
      exact r
    | v w => exact r
    | f Φ => exact fun S' As2 H2 k => r S' As2 H2 (by rw [hidS_hmk]; exact k)
    | pr a b =>
      have part : ∀ {v : V} {x : PyData ⊕ Nat}, SlP c.K (hidS S As) As' H' v x → SlP c.K S (As ++ As') H' v (shP M.length x) := fun {v x} r => by
        cases x with
        | inl x =>
          show Dp _ _ _ _
          rw [← hidS_hmk]
          exact r
        | inr i =>
          obtain ⟨a, e, r⟩ := r
          refine ⟨a, ?_, r⟩
          rw [List.getElem?_append_right (by rw [m.len]; omega), m.len, Nat.add_sub_cancel]
          exact e
      obtain ⟨p, v1, v2, e, h1, h2, h3⟩ := r
      rw [hidS_hmk] at h1
      exact ⟨p, v1, v2, e, h1, part h2, part h3⟩
    | ob C n1 n2 a b =>
      have part : ∀ {v : V} {x : PyData ⊕ Nat}, SlP c.K (hidS S As) As' H' v x → SlP c.K S (As ++ As') H' v (shP M.length x) := fun {v x} r => by
        cases x with
        | inl x =>
          show Dp _ _ _ _
          rw [← hidS_hmk]
          exact r
        | inr i =>
          obtain ⟨a, e, r⟩ := r
          refine ⟨a, ?_, r⟩
          rw [List.getElem?_append_right (by rw [m.len]; omega), m.len, Nat.add_sub_cancel]
          exact e
      obtain ⟨p, dx, v1, v2, e, h1, h2, h3⟩ := r
      rw [hidS_hmk] at h1
      exact ⟨p, dx, v1, v2, e, h1, part h2, part h3⟩
    | m i =>
      obtain ⟨a, e, r⟩ := r
      refine ⟨a, ?_, r⟩
      rw [List.getElem?_append_right (by rw [m.len]; omega), m.len, Nat.add_sub_cancel]
      exact e
/-- f(..): what it lets out is wished for, by the slots; none may come -/
theorem ev_callE {W : Wd} {ta : TA} {E : L2.St → XK} (hE : E = c.E) (h : EA c ta ρ M (fun ss M1 => (∀ s ∈ ss, notM s) ∧ W ss [] (fun s M' => Q (shS M1.length s) (M1 ++ M')) (fun C M' => X C (M1 ++ M'))) X) :
    EV c (fun σ H Q => ta σ H fun vs H1 => spW c.K c.T W (vs ++ []) H1 Q (E σ)) ρ M Q X := fun S As σ H e m R k kx =>
  h S As σ H e m _ (fun ss M1 As1 vs H1 ⟨hn, hw⟩ g1 m1 r1 => by
    subst hE
    refine ⟨hidS S As1, [], ss, [], _, _, (by rw [List.append_nil]; exact slrs_in (c := c) r1 hn), rm_in m1, hw, fun s M' q As' v H' g m' r => ?_, fun C M' q As' H' g m' => ?_⟩
    · obtain ⟨g2, m2, r2⟩ := go_out m1 g m'
      exact k _ _ _ v H' q (g1.trans g2) m2 (r2 r)
    · obtain ⟨g2, m2, _⟩ := go_out m1 g m'
      exact kx C _ _ H' q (g1.trans g2) m2) kx
theorem ev_call0 {W : Wd} {ta : TA} {E : XK} (h : EA c ta ρ M (fun ss M1 => (∀ s ∈ ss, notM s) ∧ W ss [] (fun s M' => Q (shS M1.length s) (M1 ++ M')) X0) X) : EV c (tCall (spW c.K c.T W) [] E ta) ρ M Q X := fun S As σ H e m R k kx =>
  h S As σ H e m _ (fun ss M1 As1 vs H1 ⟨hn, hw⟩ g1 m1 r1 => by
    refine ⟨hidS S As1, [], ss, [], _, _, (by rw [List.append_nil]; exact slrs_in (c := c) r1 hn), rm_in m1, hw, fun s M' q As' v H' g m' r => ?_, fun C M' q As' H' g m' => q.elim⟩
    obtain ⟨g2, m2, r2⟩ := go_out m1 g m'
    exact k _ _ _ v H' q (g1.trans g2) m2 (r2 r)) kx
theorem ev_callX {W : Wd} {ta : TA} {E : XK} (hE : (fun _ => E) = c.E) (h : EA c ta ρ M (fun ss M1 => (∀ s ∈ ss, notM s) ∧ W ss [] (fun s M' => Q (shS M1.length s) (M1 ++ M')) (fun C M' => X C (M1 ++ M'))) X) : EV c (tCall (spW c.K c.T W) [] E ta) ρ M Q X := ev_callE hE h
theorem ev_callS {W : Wd} {ta : TA} {E : L2.St → XK} (hE : E = c.E) (h : EA c ta ρ M (fun ss M1 => (∀ s ∈ ss, notM s) ∧ W ss [] (fun s M' => Q (shS M1.length s) (M1 ++ M')) (fun C M' => X C (M1 ++ M'))) X) : EV c (tCallS (spW c.K c.T W) E ta) ρ M Q X := fun S As σ H e m R k kx => by
  have := ev_callE hE h S As σ H e m R k kx
  simp only [List.append_nil] at this
  exact this
/-! ### a call that is handed the own object j too -/
def okP (j : Nat) : PyData ⊕ Nat → Prop
  | .inl _ => True
  | .inr i => i = j
def inP : PyData ⊕ Nat → PyData ⊕ Nat
  | .inl x => .inl x
  | .inr _ => .inr 0
def okM (j : Nat) : Sl → Prop
  | .m i => i = j
  | .pr _ _ => False
  | .ob _ _ _ a b => okP j a ∧ okP j b
  | _ => True
def inM (j : Nat) : Sl → Sl
  | .m _ => .m 0
  | .ob C n1 n2 a b => .ob C n1 n2 (inP a) (inP b)
  | s => s
def outP (j n : Nat) : PyData ⊕ Nat → PyData ⊕ Nat
  | .inr 0 => .inr j
  | .inr (i + 1) => .inr (i + n)
  | x => x
def outM (j n : Nat) : Sl → Sl
  | .m 0 => .m j
  | .m (i + 1) => .m (i + n)
  | .pr a b => .pr (outP j n a) (outP j n b)
  | .ob C n1 n2 a b => .ob C n1 n2 (outP j n a) (outP j n b)
  | s => s
def hidB (S : Addr → Bool) (As : Ads) (b : Addr) : Addr → Bool := fun a => (S a || decide (a ∈ As)) && !decide (a = b)
theorem hidB_hmk {b : Addr} (hb : b ∈ As) (As1 : Ads) : hmk (hidB S As b) (b :: As1) H = hmk S (As ++ As1) H := by
  funext a
  unfold hmk hidB
  have : (((S a || decide (a ∈ As)) && !decide (a = b)) = true ∨ a ∈ b :: As1) ↔ (S a = true ∨ a ∈ As ++ As1) := by
    rw [Bool.and_eq_true, Bool.or_eq_true, decide_eq_true_eq, List.mem_append, Bool.not_eq_true', decide_eq_false_iff_not, List.mem_cons]
    by_cases e : a = b
    · subst e; simp [hb]
    · simp [e, or_assoc]
  simp only [this]
theorem slrs_inM {b : Addr} {j : Nat} (hb : As[j]? = some b) : ∀ {vs : List V} {ss : List Sl}, SlRs c S As H vs ss → (∀ s ∈ ss, okM j s) → SlRs c (hidB S As b) [b] H vs (ss.map (inM j))
  | _, _, .nil, _ => .nil
  | _, _, .cons (b := s) a r, n => .cons (by
      cases s with
      | un => trivial
      | d x =>
        show Dp _ _ _ _
        rw [hidB_hmk (List.mem_of_getElem? hb) [], List.append_nil]
        exact a
      | v w => exact a
      | pr x y => exact (n (.pr x y) List.mem_cons_self).elim
      | ob C n1 n2 x y =>
        have hh : hmk (hidB S As b) [b] H = hmk S As H := by
          have := hidB_hmk (S := S) (H := H) (List.mem_of_getElem? hb) []
          rwa [List.append_nil] at this
        have part : ∀ {v : V} {x : PyData ⊕ Nat}, okP j x → SlP c.K S As H v x → SlP c.K (hidB S As b) [b] H v (inP x) := fun {v x} hx r => by
          cases x with
          | inl x =>
            show Dp _ _ _ _
            rw [hh]
            exact r
          | inr i =>
            obtain ⟨q, e, r⟩ := r
            have : i = j := hx
            subst this
            rw [hb] at e; cases e
            exact ⟨b, rfl, r⟩
        obtain ⟨p, dx, v1, v2, e, h1, h2, h3⟩ := a
        have hx : okP j x ∧ okP j y := n (.ob C n1 n2 x y) List.mem_cons_self
        exact ⟨p, dx, v1, v2, e, by rw [hh]; exact h1, part hx.1 h2, part hx.2 h3⟩
      | f Φ => exact fun S' As' H' k => a S' As' H' (by rw [hidB_hmk (List.mem_of_getElem? hb) [], List.append_nil] at k; exact k)
      | m i =>
        obtain ⟨x, e, r⟩ := a
        have : i = j := n _ List.mem_cons_self
        subst this
        rw [hb] at e; cases e
        exact ⟨b, rfl, r⟩) (slrs_inM hb r fun s hs => n s (List.mem_cons_of_mem _ hs))
theorem rm_inM {b : Addr} {j : Nat} {mo : MO} (m : RM c.K c.T S As H M) (hb : As[j]? = some b) (hj : M[j]? = some mo) : RM c.K c.T (hidB S As b) [b] H [mo] := by
  have hm := List.mem_of_getElem? hb
  refine ⟨rfl, by simp, fun a ha => ?_, fun a ha => ?_, fun i a mo' e1 e2 => ?_, m.tb, fun a ha w e => by
    unfold hidB at ha
    rw [Bool.and_eq_true, Bool.or_eq_true, decide_eq_true_eq] at ha
    rcases ha.1 with ha | ha
    · exact m.st a ha w e
    · exact m.ntA ha e⟩
  · simp at ha; subst ha
    unfold hidB; simp
  · unfold hidB at ha
    rw [Bool.and_eq_true, Bool.or_eq_true, decide_eq_true_eq] at ha
    rcases ha.1 with ha | ha
    · exact m.sd a ha
    · exact m.dom ha
  · cases i with
    | zero =>
      simp at e1 e2
      subst e1; subst e2
      have h0 := m.at_ j _ _ hb hj
      have q := hidB_hmk (S := S) (H := H) hm []
      rw [List.append_nil] at q
      cases mo with
      | lst ds =>
        obtain ⟨z, vs, e, r⟩ := h0
        exact ⟨z, vs, e, q ▸ r⟩
      | dd fz kv =>
        obtain ⟨z, vs, e, r⟩ := h0
        exact ⟨z, vs, e, q ▸ r⟩
      | ho o => exact h0
      | P φ => exact h0
    | succ i => simp at e1
theorem go_outM {b : Addr} {j : Nat} {As' : Ads} {H' : Hp} {mo' : MO} {M' : List MO} (m : RM c.K c.T S As H M) (hb : As[j]? = some b) (g : Go [b] H As' H') (m' : RM c.K c.T (hidB S As b) As' H' (mo' :: M')) :
    ∃ As2, Go As H (As ++ As2) H' ∧ RM c.K c.T S (As ++ As2) H' (M.set j mo' ++ M') ∧ ∀ {v : V} {s : Sl}, SlR c.K (hidB S As b) As' H' v s → SlR c.K S (As ++ As2) H' v (outM j M.length s) := by
  obtain ⟨As2, e⟩ := g.pre
  have e : As' = b :: As2 := e
  subst e
  have hm := List.mem_of_getElem? hb
  have hnd := List.nodup_cons.mp m'.nd
  have apart : ∀ a ∈ As2, S a = false ∧ a ∉ As := fun a ha => by
    have h1 := m'.sS a (List.mem_cons_of_mem _ ha)
    have ne : a ≠ b := fun z => hnd.1 (z ▸ ha)
    unfold hidB at h1
    simp [ne] at h1
    exact h1
  have gF : Go As H (As ++ As2) H' := by
    refine ⟨⟨As2, rfl⟩, fun a o h na => ?_, g.dm⟩
    obtain ⟨n, k⟩ := g.kp a o h (by simp; exact fun z => na (z ▸ hm))
    refine ⟨fun z => ?_, k⟩
    rcases List.mem_append.mp z with z | z
    · exact na z
    · exact n (List.mem_cons_of_mem _ z)
  have q := hidB_hmk (S := S) (H := H') hm As2
  refine ⟨As2, gF, ⟨?_, ?_, fun a ha => ?_, fun a ha => g.dm a (m.sd a ha), fun i a mo e1 e2 => ?_, m'.tb, fun a ha w e => m'.st a (by
    have ne : a ≠ b := fun z => by have := m.sS b hm; rw [z, this] at ha; cases ha
    unfold hidB; simp [ha, ne]) w e⟩, fun {v s} r => ?_⟩
  · have := m'.len
    simp at this
    rw [List.length_append, List.length_append, List.length_set, m.len, this]
  · rw [List.nodup_append]
    exact ⟨m.nd, hnd.2, fun a ha b hb z => (apart b hb).2 (z ▸ ha)⟩
  · rcases List.mem_append.mp ha with z | z
    · exact m.sS a z
    · exact (apart a z).1
  · by_cases hi : i < As.length
    · rw [List.getElem?_append_left hi] at e1
      rw [List.getElem?_append_left (by rw [List.length_set, ← m.len]; exact hi)] at e2
      by_cases hj : j = i
      · subst hj
        rw [hb] at e1; cases e1
        rw [List.getElem?_set_self (by rw [← m.len]; exact hi)] at e2
        cases e2
        have h0 := m'.at_ 0 b mo' rfl rfl
        cases mo' with
        | lst ds =>
          obtain ⟨z, vs, e, r⟩ := h0
          exact ⟨z, vs, e, q ▸ r⟩
        | dd fz kv =>
          obtain ⟨z, vs, e, r⟩ := h0
          exact ⟨z, vs, e, q ▸ r⟩
        | ho o => exact h0
        | P φ => exact h0
      · rw [List.getElem?_set_ne hj] at e2
        have h0 := m.at_ i a mo e1 e2
        have ne : a ≠ b := fun z => hj (nd_ix m.nd hb (z ▸ e1))
        have nb : a ∉ [b] := by simp [ne]
        cases mo with
        | lst ds =>
          obtain ⟨z, vs, e, r⟩ := h0
          exact ⟨z, vs, (g.kp a _ e nb).2 rfl, dpAll_kp gF.kpm _ _ r⟩
        | dd fz kv =>
          obtain ⟨z, vs, e, r⟩ := h0
          exact ⟨z, vs, (g.kp a _ e nb).2 (dkO_t _ _), dpAll_kp gF.kpm _ _ r⟩
        | ho o => exact ⟨(g.kp a _ h0.1 nb).2 h0.2.1, h0.2⟩
        | P φ =>
          obtain ⟨o', eo, t, r⟩ := h0
          exact ⟨o', (g.kp a _ eo nb).2 t, t, r⟩
    · rw [List.getElem?_append_right (by omega)] at e1
      rw [List.getElem?_append_right (by rw [List.length_set, ← m.len]; omega), List.length_set, ← m.len] at e2
      have h0 := m'.at_ (i - As.length + 1) a mo (by simpa using e1) (by simpa using e2)
      cases mo with
      | lst ds =>
        obtain ⟨z, vs, e, r⟩ := h0
        exact ⟨z, vs, e, q ▸ r⟩
      | dd fz kv =>
        obtain ⟨z, vs, e, r⟩ := h0
        exact ⟨z, vs, e, q ▸ r⟩
      | ho o => exact h0
      | P φ => exact h0
  · cases s with
    | un => trivial
    | d x =>
      show Dp _ _ _ _
      rw [← q]
      exact r
    | v w => exact r
    | f Φ => exact fun S' As3 H2 k => r S' As3 H2 (by rw [q]; exact k)
    | pr x y =>
      have part : ∀ {v : V} {x : PyData ⊕ Nat}, SlP c.K (hidB S As b) (b :: As2) H' v x → SlP c.K S (As ++ As2) H' v (outP j M.length x) := fun {v x} r => by
        cases x with
        | inl x =>
          show Dp _ _ _ _
          rw [← q]
          exact r
        | inr i =>
          obtain ⟨a, e, r⟩ := r
          cases i with
          | zero =>
            simp at e; subst e
            refine ⟨b, ?_, r⟩
            rw [List.getElem?_append_left (List.getElem?_eq_some_iff.mp hb).1]
            exact hb
          | succ i =>
            refine ⟨a, ?_, r⟩
            rw [List.getElem?_append_right (by rw [m.len]; omega), m.len, Nat.add_sub_cancel]
            simpa using e
      obtain ⟨p, v1, v2, e, h1, h2, h3⟩ := r
      rw [q] at h1
      exact ⟨p, v1, v2, e, h1, part h2, part h3⟩
    | ob C n1 n2 x y =>
      have part : ∀ {v : V} {x : PyData ⊕ Nat}, SlP c.K (hidB S As b) (b :: As2) H' v x → SlP c.K S (As ++ As2) H' v (outP j M.length x) := fun {v x} r => by
        cases x with
        | inl x =>
          show Dp _ _ _ _
          rw [← q]
          exact r
        | inr i =>
          obtain ⟨a, e, r⟩ := r
          cases i with
          | zero =>
            simp at e; subst e
            refine ⟨b, ?_, r⟩
            rw [List.getElem?_append_left (List.getElem?_eq_some_iff.mp hb).1]
            exact hb
          | succ i =>
            refine ⟨a, ?_, r⟩
            rw [List.getElem?_append_right (by rw [m.len]; omega), m.len, Nat.add_sub_cancel]
            simpa using e
      obtain ⟨p, dx, v1, v2, e, h1, h2, h3⟩ := r
      rw [q] at h1
      exact ⟨p, dx, v1, v2, e, h1, part h2, part h3⟩
    | m i =>
      obtain ⟨a, e, r⟩ := r
      cases i with
      | zero =>
        simp at e; subst e
        refine ⟨b, ?_, r⟩
        rw [List.getElem?_append_left (List.getElem?_eq_some_iff.mp hb).1]
        exact hb
      | succ i =>
        refine ⟨a, ?_, r⟩
        rw [List.getElem?_append_right (by rw [m.len]; omega), m.len, Nat.add_sub_cancel]
        simpa using e
/-- f(.., own object, ..), nothing raised -/
theorem ev_callM {W : Wd} {ta : TA} {E : XK} (h : EA c ta ρ M (fun ss M1 => ∃ j mo, M1[j]? = some mo ∧ (∀ s ∈ ss, okM j s) ∧ W (ss.map (inM j)) [mo] (fun s M' => ∃ mo' M2, M' = mo' :: M2 ∧ Q (outM j M1.length s) (M1.set j mo' ++ M2)) X0) X) : EV c (tCall (spW c.K c.T W) [] E ta) ρ M Q X := fun S As σ H e m R k kx =>
  h S As σ H e m _ (fun ss M1 As1 vs H1 ⟨j, mo, hj, hn, hw⟩ g1 m1 r1 => by
    obtain ⟨b, hb, _⟩ := m1.ex hj
    refine ⟨hidB S As1 b, [b], ss.map (inM j), [mo], _, _, (by rw [List.append_nil]; exact slrs_inM (c := c) hb r1 hn), rm_inM m1 hb hj, hw, fun s M' q As' v H' g m' r => ?_, fun C M' q As' H' g m' => q.elim⟩
    obtain ⟨mo', M2, e, q⟩ := q
    subst e
    obtain ⟨As2, g2, m2, r2⟩ := go_outM m1 hb g m'
    exact k _ _ _ v H' q (g1.trans g2) m2 (r2 r)) kx
/-! ### raise, try -/
theorem ex_raise {C : Addr} {E : XK} (hE : (fun _ => E) = c.E) (q : P.xp C ρ M) : EX c (fun _ _ H => E (.ref C) none H) ρ M P := fun S As σ H e m D k1 k2 k3 k4 k5 => by
  have := k5 C ρ M As σ H q (.refl _ _) e m
  rw [← hE] at this
  exact this
/-- try: body; except F as e: suite. tb: the body by the wish of its exceptions; ts: the suite by the exception's class -/
theorem ex_try {Fc : Value} {i : Nat} {tb : WX → TS} {ts : Addr → Value → Option Addr → TS} {Wout : WX} {Xb : XPs}
    (hb : ∀ W : WX, EX ⟨c.K, c.T, fun σ => WE W σ⟩ (tb W) ρ M { P with xp := Xb })
    (hs : ∀ C ρ' M', Xb C ρ' M' → PySem.W.exmOne c.K (.ref C) Fc = some true ∧ ∀ a, EX c (ts a (.ref C) none) (ρ'.set i (.v (.ref a))) M' { P with nx := fun ρ2 M2 => P.nx (ρ2.set i .un) M2, bk := fun ρ2 M2 => P.bk (ρ2.set i .un) M2, ct := fun ρ2 M2 => P.ct (ρ2.set i .un) M2 }) :
    EX c (fun D σ H => tb (wAs c.K Fc i ts Wout D) D σ H) ρ M P := fun S As σ H e m D k1 k2 k3 k4 k5 => by
  refine hb (wAs c.K Fc i ts Wout D) S As σ H e m D k1 k2 k3 k4 (fun C ρ' M' As' σ' H' q g e' m' => ?_)
  obtain ⟨h1, h2⟩ := hs C ρ' M' q
  have unset : ∀ {σ2 : L2.St} {ρ2 : List Sl} {As2 : Ads} {H2 : Hp}, RE c.K S As2 H2 σ2 ρ2 → RE c.K S As2 H2 (σ2.set i none) (ρ2.set i .un) := fun {σ2 ρ2 As2 H2} e2 => by
    refine ⟨by rw [List.length_set, List.length_set]; exact e2.len, fun j s hs n => ?_⟩
    by_cases hj : i = j
    · subst hj
      have hl := (List.getElem?_eq_some_iff.mp hs).1
      rw [List.length_set] at hl
      rw [List.getElem?_set_self hl] at hs
      cases hs
      exact absurd rfl n
    · rw [List.getElem?_set_ne hj] at hs ⊢
      exact e2.at_ j s hs n
  refine ⟨true, h1, fun _ a ha => ?_, fun z => nomatch z⟩
  refine h2 a S As' _ H' (e'.set i (s := .v (.ref a)) rfl) m' _ (fun ρ2 M2 As2 σ2 H2 q2 g2 e2 m2 => k1 _ M2 As2 _ H2 q2 (g.trans g2) (unset e2) m2) (k2.go g) (fun ρ2 M2 As2 σ2 H2 q2 g2 e2 m2 => k3 _ M2 As2 _ H2 q2 (g.trans g2) (unset e2) m2) (fun ρ2 M2 As2 σ2 H2 q2 g2 e2 m2 => k4 _ M2 As2 _ H2 q2 (g.trans g2) (unset e2) m2) (k5.go g)
/-- isinstance(e, c) of the exception that the suite holds -/
def rIsX (K : PySem.W.Frag) (a : Addr) (cls : Value) (d : Option Addr) : List V → Hp → VK → Prop := fun xs H Q => ∃ (D C : Addr) (b : Bool), cls = .ref D ∧ d = none ∧ ExcC K D ∧ xs = [.ref a, .ref C] ∧ PySem.W.kitOne K (.ref D) (.ref C) = some b ∧ Q (.bl b) H
theorem call_isX {X : Cx} {a : Addr} {oe : Obj} {cls : Value} {d : Option Addr} {pn : List (Addr × Obj)} (hz : L2N.Zn cls d oe) (hf : ∃ vs, oe.data = .fields vs) : CallR (X.suite a ((a, oe) :: pn)) (.builtin "isinstance") (rIsX X.K a cls d) := by
  intro pins s σ H xs us Q I r h
  obtain ⟨D, C, b, rfl, rfl, hD, rfl, e, q⟩ := h
  exact call_isE hD hz.zc hf pins s σ H _ us Q I r ⟨.ref C, .ref C, b, rfl, fun u hu => hu, e, q⟩
theorem dv_isX {a D C : Addr} {i : Nat} {b : Bool} (hx : ρ[i]? = some (.v (.ref a))) (hD : ExcC c.K D) (hk : PySem.W.kitOne c.K (.ref D) (.ref C) = some b) : Dv c (tCB (rIsX c.K a (.ref D) none) (tCons (tVar i) (tCons (tC (.ref C)) tNil))) ρ M (.bool b) :=
  ev_cb (ea_cons (ev_var hx (fun z => nomatch z) (ea_cons (ev_c (s := .v (.ref C)) (fun _ _ _ => rfl) (ea_nil fun S As H vs hv m R k => by
    obtain ⟨v, w, rfl, r1, r2⟩ := slrs2 hv
    cases r1; cases r2
    exact ⟨D, C, b, rfl, rfl, hD, rfl, hk, k.here ⟨rfl, rfl⟩ m (.bl _)⟩)))))
end
end DL

set_option Elab.async false
set_option linter.all false
set_option autoImplicit false
set_option maxRecDepth 100000
set_option maxHeartbeats 2000000
/-! DL: sorted of lists, tuples of data, any length. -/
namespace PySem.W
open PySem PySem.Calls PyProof.Rows
section
variable {prog : Program} {w : World} {A : Around} {E : Value → Shared → Prop} {s : Shared} {κ : Heap → PyProof.Rows.KeyKind}
/-- sorted(x), x anything that is collected into vs -/
theorem sorted_from {x : Value} {vs : List Value} {Q : Value → Shared → Prop} (hL : vs.length ≤ sizeLine) (hax : argsOk "sorted" ⟨[x], []⟩)
    (hcol : ∀ (Q' : List Value → Shared → Prop), (∀ (h' : Heap) (tk : Nat), (∀ b o, s.heap.get? b = some o → h'.get? b = some o) → Q' vs { s with heap := h', toks := tk }) → wpAny (model prog w) A.in1 (collect x) Q' E s)
    (S : ∀ (h' : Heap) (tk : Nat), (∀ b o, s.heap.get? b = some o → h'.get? b = some o) → SortsAt prog w A.in1.in1 { s with heap := sortingHeap (h'.push (seqObj "list" vs.toArray 0)) h'.objs.size vs, toks := tk } (κ h') vs)
    (h : ∀ (h1 h2 : Heap) (tk c : Nat), (∀ b o, s.heap.get? b = some o → h1.get? b = some o) → (∀ b o, h1.get? b = some o → h2.get? b = some o) → h2.get? h1.objs.size = some (seqObj "list" (sortVals (κ h1) false vs vs).toArray c) → Q (.ref h1.objs.size) { s with heap := h2, toks := tk }) :
    wpAny (model prog w) A (call (.builtin "sorted") [x]) Q E s := by
  refine call_function_entry_kw kind_sorted plain_sorted entry_sorted hax ?_
  unfold Builtin.«sorted»
  refine wpAny_bind (m := checkCount "sorted" 1 1 _) (wpAny_pure ?_)
  refine wpAny_bind (hcol _ fun h' tk k => ?_)
  refine wpAny_bind (wpAny_newList ?_ hL)
  show wpAny _ _ _ _ _ { s with heap := h'.push (seqObj "list" vs.toArray 0), toks := tk }
  have hat : (h'.push (seqObj "list" vs.toArray 0)).get? h'.objs.size = some (seqObj "list" vs.toArray 0) := Heap.get?_push_size _ rfl
  refine wpAny_bind (wpAny_holding (wpAny_call_entry_kw slot_list_sort ⟨_, hat, rfl⟩ entry_list_sort ?body (args_list_sort _)))
  case body =>
    show wpAny (model prog w) A.in1.in1 (Builtin.«list.sort» ⟨[.ref h'.objs.size], []⟩) _ _ _
    refine list_sort_vals (s := { s with heap := h'.push (seqObj "list" vs.toArray 0), toks := tk }) hat (S h' tk k) hL ?_
    refine ⟨_, rfl, wpAny_pure ⟨_, rfl, ?_⟩⟩
    obtain ⟨c, hc⟩ := sortedHeap_at (out := (sortVals (κ h') false vs vs).toArray) hat
    refine h h' _ tk c k (fun b o e => ?_) hc
    have hlt := Heap.lt_size e
    rw [sortedHeap_old (Nat.ne_of_lt hlt) (by rw [Heap.size_push]; exact Nat.lt_succ_of_lt hlt)]
    exact Heap.get?_push_of_some _ e
end
section
variable {prog : Program} {w : World} {A : Around} {s : Shared}
open PySem.SeqAt in
theorem call_tuple_lt {E : Value → Shared → Prop} {Q : Value → Shared → Prop} {l b : Addr} {items items2 : Array Value} {e r : Nat → Bool} (hl : s.heap.IsTuple l items) (hb : s.heap.IsTuple b items2)
    (he : ∀ j (h1 : j < items.size) (h2 : j < items2.size), EqAt A.in1 s items[j] items2[j] (e j)) (hr : ∀ j (h1 : j < items.size) (h2 : j < items2.size), e j = false → RcLt A.in1 s items[j] items2[j] (r j))
    (h : Q (.bool (firstLt e r (decide (items.size < items2.size)) (List.range (min items.size items2.size)))) s) : wpAny (model prog w) A (call (.builtin "tuple.__lt__") [.ref l, .ref b]) Q E s := by
  obtain ⟨⟨cls, dd, data, sl⟩, ho, hc, n, hd⟩ := id hl
  obtain ⟨⟨cls2, dd2, data2, sl2⟩, ho2, hc2, n2, hd2⟩ := id hb
  simp only at hc hd hc2 hd2
  subst hc hd hc2 hd2
  exact call_meets F.slot_tuple_lt ⟨_, ho, rfl⟩ F.entry_tuple_lt (F.args_tuple_lt_2 _ _) (tuple_ltAt l b items items2 n n2 dd dd2 sl sl2 e r) ⟨ho, ho2, he, hr, h⟩
open PySem.SeqAt in
/-- tuples, one type, as sorting compares -/
theorem oneLt_tup {E : Value → Shared → Prop} {xs ys : List PyData} {a b : Value} {as bs : List Addr} {Q : Bool → Shared → Prop} (ra : Reads s.heap a (.tuple xs) as) (rb : Reads s.heap b (.tuple ys) bs) (h : alike (.tuple xs) (.tuple ys) = true)
    (hu : A.units + min (PyData.tuple xs).depth (PyData.tuple ys).depth < cLine) (hq : Q (dataLt (.tuple xs) (.tuple ys)) s) : wpAny (model prog w) A (oneLt' true a b) Q E s := by
  have hal : alikeAll xs ys = true := by simpa [alike] using h
  cases ra with
  | @tuple l o vs n _ as₁ h1 h2 h3 h4 =>
    cases rb with
    | @tuple l' o' vs' n' _ bs₁ k1 k2 k3 k4 =>
      have n1 : vs.size = xs.length := by simpa using ReadsAll.length _ _ _ h4
      have n2 : vs'.size = ys.length := by simpa using ReadsAll.length _ _ _ k4
      rw [dataLt_tuple, ← firstLt_toks xs ys hal, ← n1, ← n2] at hq
      rw [oneLt'_eq]
      simp only [if_true]
      refine wpAny_bind (wpAny_cRoomFor (room_here hu) ?_)
      refine wpAny_bind (wpAny_callSpecialIfBound?_slot (T := "tuple") ⟨_, h1, h2⟩ F.slot_tuple_lt (call_tuple_lt (e := pairEq xs ys) (r := fun j => dataLt (xs.getD j .none) (ys.getD j .none)) ⟨_, h1, h2, _, h3⟩ ⟨_, k1, k2, _, k3⟩ (fun j j1 j2 => ?_) (fun j j1 j2 hj => ?_) ?_))
      · have := eqAt_alikeAll xs ys A.in1 s vs.toList vs'.toList _ _ h4 k4 hal (room_in hu) j (by simpa using j1) (by simpa using j2)
        simpa using this
      · have := rcLt_alikeAll xs ys A.in1 s vs.toList vs'.toList _ _ h4 k4 hal (room_in hu) j (by simpa using j1) (by simpa using j2) hj
        simpa using this
      · exact wpAny_truthy_bool hq
def neT : PyData → Bool
  | .tuple (_ :: _) => true
  | _ => false
theorem tup_firsts {M : Model} {E : Value → Shared → Prop} : ∀ {vs : List Value} {ds : List PyData}, EachIs (fun v d => ∃ as, Reads s.heap v d as) vs ds → (∀ d ∈ ds, ∃ xs, d = .tuple xs) →
    ∃ fs : List (Option Value), fs.map Option.isSome = ds.map neT ∧ ∀ {Q : List (Option Value) → Shared → Prop}, Q fs s → wpAny M A (vs.mapM firstOfTuple') Q E s
  | _, _, .nil, _ => ⟨[], rfl, fun h => by rw [List.mapM_nil]; exact wpAny_pure h⟩
  | _, _, .cons (b := d) ⟨as, r⟩ t, ht => by
    obtain ⟨fs, h1, h2⟩ := tup_firsts t fun d hd => ht d (List.mem_cons_of_mem _ hd)
    obtain ⟨xs, rfl⟩ := ht d List.mem_cons_self
    cases r with
    | @tuple a o vs n _ _ ho hc hd hr =>
      refine ⟨vs[0]? :: fs, ?_, fun {Q} h => ?_⟩
      · rw [List.map_cons, List.map_cons, h1]
        congr 1
        have hl := SeqAt.ReadsAll.length _ _ _ hr
        cases xs with
        | nil =>
          have : vs.size = 0 := by simpa using hl
          rw [Array.getElem?_eq_none (by omega)]; rfl
        | cons x xs =>
          have : 0 < vs.size := by
            have e : vs.size = (x :: xs).length := by simpa using hl
            rw [e]; exact Nat.succ_pos _
          rw [Array.getElem?_eq_getElem this]; rfl
      · rw [List.mapM_cons]
        refine wpAny_bind ?_
        rw [kas_first_eq]
        refine wpAny_bind (Looks.here (show Looks M s.heap (typeOf (.ref a)) o.cls from (Looks.ld ho).andThen .now) ?_)
        rw [hc, if_neg (by first | decide | simp)]
        refine wpAny_bind (listItems_at ho hd (wpAny_pure ?_))
        exact wpAny_bind (h2 (Q := fun bs s' => wpAny M A (pure (vs[0]? :: bs)) Q E s') (wpAny_pure h))
theorem SortsAt.tups {vs : List Value} {ds : List PyData} (e : EachIs (fun v d => ∃ as, Reads s.heap v d as) vs ds) (hal : AllAlike ds) (ht : ∀ d ∈ ds, ∃ xs, d = .tuple xs) (hu : ∀ d, d ∈ ds → A.units + d.depth < cLine) : SortsAt prog w A s (dataKind s.heap ds) vs := by
  by_cases hall : ∀ d ∈ ds, ∃ x r, d = .tuple (x :: r)
  · exact SortsAt.data e hal (.inl hall) hu
  have room : ∀ {d d' : PyData}, d ∈ ds → A.units + min d.depth d'.depth < cLine := fun {d d'} hd => Nat.lt_of_le_of_lt (Nat.add_le_add_left (Nat.min_le_left _ _) _) (hu d hd)
  have hex : (ds.map neT).all id = false := by
    cases q : (ds.map neT).all id with
    | false => rfl
    | true =>
      exfalso
      refine hall fun d hd => ?_
      rw [List.all_map] at q
      have z := List.all_eq_true.mp q d hd
      obtain ⟨xs, rfl⟩ := ht d hd
      cases xs with
      | nil => cases z
      | cons x r => exact ⟨x, r, rfl⟩
  refine ⟨fun v hv => ?_, ?_⟩
  · obtain ⟨d, hd, as, r⟩ := e.left v hv
    exact ⟨_, dataKind_some hal hd r⟩
  cases ds with
  | nil => exact absurd (fun d hd => absurd hd (by simp)) hall
  | cons d₀ ds₀ =>
    obtain ⟨xs₀, rfl⟩ := ht d₀ List.mem_cons_self
    have firsts : ∀ (E : Value → Shared → Prop) {Q : SortKind → Shared → Prop}, (neT (.tuple xs₀) = true → Q general' s) → (neT (.tuple xs₀) = false → Q oneType' s) → wpAny (model prog w) A (keyKind' vs.toArray) Q E s := fun E Q q1 q2 => by
      obtain ⟨fs, h1, h2⟩ := tup_firsts (M := model prog w) (A := A) (E := E) e ht
      rw [kat_kind_eq, List.mapM_toArray, map_eq_pure_bind]
      refine wpAny_bind (wpAny_bind (h2 (wpAny_pure ?_)))
      have ha : (fs.toArray.all fun x => x.isSome) = false := by
        rw [List.all_toArray]
        have : (fs.map Option.isSome).all id = fs.all fun x => x.isSome := by rw [List.all_map]; rfl
        rw [← this, h1]; exact hex
      rw [if_neg (by rw [ha]; exact Bool.false_ne_true)]
      cases fs with
      | nil => cases h1
      | cons f fs =>
        have h3 : f.isSome = neT (.tuple xs₀) := (List.cons.inj h1).1
        have h4 : ((f :: fs).toArray[0]?.bind id) = f := by simp
        rw [h4]
        cases hf : f.isSome with
        | true =>
          rw [if_pos rfl]
          exact wpAny_pure (q1 (h3 ▸ hf))
        | false =>
          rw [if_neg Bool.false_ne_true]
          rw [oneTypeOnly'_eq, List.mapM_toArray, map_eq_pure_bind]
          have hT : ∀ v ∈ vs, Looks (model prog w) s.heap (typeOf v) (.type "tuple") := fun v hv => by
            obtain ⟨d, hd, as, r⟩ := e.left v hv
            have := looks_reads (M := model prog w) r
            obtain ⟨xs, rfl⟩ := ht d hd
            exact this
          refine wpAny_bind (wpAny_bind (wpAny_bind (kas_mapM (r := Value.type "tuple") _ (fun v hv Q' hq => (hT v hv).here hq) (wpAny_pure ?_))))
          cases e with
          | cons _ _ =>
            simp only [List.map_cons]
            have h0 : ∀ (l : List Value), ((Value.type "tuple") :: l).toArray[0]? = some (Value.type "tuple") := fun l => by simp
            rw [h0]
            have hall : ∀ (l : List Value), ((Value.type "tuple" :: l.map fun _ => Value.type "tuple").toArray.all fun x => x == Value.type "tuple") = true := fun l => by
              simp only [List.all_toArray, List.all_cons, List.all_map, Bool.and_eq_true, List.all_eq_true]
              exact ⟨beq_self_eq_true _, fun _ _ => beq_self_eq_true _⟩
            simp only [hall, if_true]
            exact wpAny_pure (wpAny_pure (q2 (h3 ▸ hf)))
    cases h0 : neT (.tuple xs₀) with
    | true =>
      refine ⟨general', fun E x y a b Q ha hb hq => ?_, fun h2 E Q hq => firsts E (fun _ => hq) fun z => by rw [h0] at z; cases z⟩
      obtain ⟨d, as, hd, ra, rfl⟩ := dataKind_inv ha
      obtain ⟨d', as', hd', rb, rfl⟩ := dataKind_inv hb
      obtain ⟨xs, rfl⟩ := ht d hd
      show wpAny (model prog w) A (oneLt' false x y) Q E s
      exact oneLt_alike (f := false) (fun z => nomatch z) ra rb (hal _ hd d' hd') (fun z => nomatch z) (room hd) hq
    | false =>
      refine ⟨oneType', fun E x y a b Q ha hb hq => ?_, fun h2 E Q hq => firsts E (fun z => by rw [h0] at z; cases z) fun _ => hq⟩
      obtain ⟨d, as, hd, ra, rfl⟩ := dataKind_inv ha
      obtain ⟨d', as', hd', rb, rfl⟩ := dataKind_inv hb
      have hdd := hal d hd d' hd'
      have hrm := room (d' := d') hd
      obtain ⟨xs, rfl⟩ := ht d hd
      obtain ⟨ys, rfl⟩ := ht d' hd'
      rw [keyLt'_oneType]
      exact oneLt_tup ra rb hdd hrm hq
end
end PySem.W
namespace DL
open PySem PySem.Spec PyProof.Rows PySem.W L2
theorem hu_units {k : Nat} {A : Around} (hr : Room k A) : A.units + 64 < cLine := hr.units
/-- sorted(xs), xs a list or a tuple of data that can be sorted -/
def rSrtD (K : PySem.W.Frag) : List V → Hp → VK → Prop := fun xs H Q => ∃ (a : Addr) (vs : List V) (ds : List PyData) (H0 : Hp), xs = [.ref a] ∧ (SqL K H a vs ∨ SqT K H a vs) ∧ Kp H0 H ∧ DpAll K H0 vs ds ∧ AllAlike ds ∧ (Sortable ds ∨ ∀ d ∈ ds, ∃ xs, d = .tuple xs) ∧ (∀ d ∈ ds, d.depth ≤ 50) ∧
  ∀ p ws, H p = none → DpAll K H0 ws (ds.mergeSort (dataLe false id)) → Q (.ref p) (upd H p (.lst ws))
section
variable {X : Cx} {pins : List (Addr × Obj)} {σ : L2.St} {H : Hp} {s : Shared}
abbrev RVd (K : PySem.W.Frag) (H : Hp) (u : Value) (d : PyData) : Prop := ∃ x : V, RelV x u ∧ Dp K H x d
theorem each_rvd {K : PySem.W.Frag} : ∀ {vs : List V} {us : List Value} {ds : List PyData}, Vals vs us → DpAll K H vs ds → EachIs (RVd K H) us ds
  | _, _, _, .nil, .nil => .nil
  | _, _, _, .cons r t, .cons a b => .cons ⟨_, r, a⟩ (each_rvd t b)
theorem each_back {K : PySem.W.Frag} : ∀ {us : List Value} {ds : List PyData}, EachIs (RVd K H) us ds → ∃ vs, Vals vs us ∧ DpAll K H vs ds
  | _, _, .nil => ⟨[], .nil, .nil⟩
  | _, _, .cons ⟨x, r, a⟩ t => by
    obtain ⟨vs, h1, h2⟩ := each_back t
    exact ⟨x :: vs, .cons r h1, .cons a h2⟩
theorem call_srtD (hu : X.A.units + 64 < cLine) : CallR X (.builtin "sorted") (rSrtD X.K) := by
  intro pins s σ H xs us Q I r h
  obtain ⟨a, vs, ds, H0, rfl, hq, hk0, hd, hal, hso, hdp, q⟩ := h
  obtain ⟨u, rfl, ru⟩ := vals1 r
  cases ru
  obtain ⟨its, n, T, o, rv, hT, ho, hc, hdt, hz⟩ : ∃ (its : List Value) (n : Nat) (T : String) (o : Obj), Vals vs its ∧ (T = "list" ∨ T = "tuple") ∧ s.heap.get? a = some o ∧ o.cls = .type T ∧ o.data = .seq its.toArray n ∧ vs.length ≤ sizeLine := by
    rcases hq with hq | hq
    · obtain ⟨its, rv, ⟨o, n, ho, hc, _, hdt⟩, hz⟩ := I.list hq
      exact ⟨its, n, "list", o, rv, .inl rfl, ho, hc, hdt, hz⟩
    · obtain ⟨its, rv, ⟨o, ho, hc, n, hdt⟩, hz⟩ := I.tuple hq
      exact ⟨its, n, "tuple", o, rv, .inr rfl, ho, hc, hdt, hz⟩
  have hz' : its.length ≤ sizeLine := by rw [← rv.length]; exact hz
  have e := each_rvd rv hd
  have er : EachIs (fun v d => ∃ as, Reads s.heap v d as) its ds := e.mono fun u d ⟨x, r, a⟩ => Dp.reads I d x u (dp_kp hk0 d x a) r
  have up : ∀ (h' : Heap), (∀ b o, s.heap.get? b = some o → h'.get? b = some o) → EachIs (fun v d => ∃ as, Reads (sortingHeap (h'.push (seqObj "list" its.toArray 0)) h'.objs.size its) v d as) its ds := fun h' k => er.mono fun _ _ ⟨as, r⟩ =>
    ⟨as, PyProof.Rows.Reads.keeps (fun b o q => sortingHeap_old (Nat.ne_of_lt (Heap.lt_size (k b o q))) (Heap.get?_push_of_some _ (k b o q))) r⟩
  refine sorted_from (κ := fun h' => dataKind (sortingHeap (h'.push (seqObj "list" its.toArray 0)) h'.objs.size its) ds) (vs := its) hz' (args_sorted1 _) (fun Q' hQ => ?_) (fun h' tk k => ?_) (fun h1 h2 tk c k1 k2 hp => ?_)
  · refine wpAny_collect_seq a hT ho hc hdt (fun h' k => ?_) (by rw [List.size_toArray]; exact hz')
    have := hQ h' s.toks k
    simpa using this
  · have hroom : ∀ d ∈ ds, X.A.in1.in1.units + d.depth < cLine := fun d hd => by
      have := hdp d hd
      show X.A.units + 1 + 1 + d.depth < cLine
      omega
    rcases hso with hso | hso
    · exact SortsAt.data (s := { s with heap := sortingHeap (h'.push (seqObj "list" its.toArray 0)) h'.objs.size its, toks := tk }) (up h' k) hal hso hroom
    · exact SortsAt.tups (s := { s with heap := sortingHeap (h'.push (seqObj "list" its.toArray 0)) h'.objs.size its, toks := tk }) (up h' k) hal hso hroom
  · have es : EachIs (RVd X.K H0) (sortVals (dataKind (sortingHeap (h1.push (seqObj "list" its.toArray 0)) h1.objs.size its) ds) false its its) (ds.mergeSort (dataLe false id)) := by
      have := sortVals_data (enc := id) (bs := ds) false e (h' := sortingHeap (h1.push (seqObj "list" its.toArray 0)) h1.objs.size its) (up h1 k1) (by rw [List.map_id]; exact hal)
      rw [List.map_id] at this
      exact this
    obtain ⟨ws, hw1, hw2⟩ := each_back es
    have I1 : Inv X pins σ H { s with heap := h1, toks := tk } := I.kept k1
    have hfresh : H h1.objs.size = none := I1.hok.fresh (Nat.le_refl _)
    have hlen : ws.length ≤ sizeLine := by
      rw [hw1.length, sortVals_length false rfl]
      exact hz'
    refine ⟨.ref h1.objs.size, upd H h1.objs.size (.lst ws), ?_, rfl, q _ ws hfresh hw2⟩
    exact I1.laid (t' := tk) (h' := h2) k2 (Nat.le_refl _) ⟨hlen, _, c, hw1, hp⟩
end
end DL

set_option Elab.async false
set_option linter.all false
set_option autoImplicit false
set_option maxRecDepth 100000
set_option maxHeartbeats 2000000
/-! DL: sorted, list and tuple operations, the bag. -/
namespace DL
open PySem PySem.Spec PyProof.Rows L2 PySem.W

def isort (ns : List Int) : List Int := ns.mergeSort (fun a b => decide (a ≤ b))
theorem srt_ints (ns : List Int) : (ns.map PyData.int).mergeSort (dataLe false id) = (isort ns).map .int := by
  unfold isort
  refine (sort_maps PyData.int fun a _ b _ => ?_).symm
  have h := congrFun (congrFun (dataLe_int (β := Int) id) a) b
  exact h.symm
theorem alike_ints' (ns : List Int) : AllAlike (ns.map PyData.int) := AllAlike.of fun _ _ => by simp [alike]
theorem srtbl_ints (ns : List Int) : Sortable (ns.map PyData.int) := Sortable.others fun _ => ⟨by simp, by simp⟩
theorem depth_ints' {ns : List Int} : ∀ d ∈ ns.map PyData.int, d.depth ≤ 50 := fun d hd => by
  obtain ⟨n, _, rfl⟩ := List.mem_map.mp hd
  simp [PyData.depth]
def natD (i : Nat) : PyData := .int (i : Int)

theorem dpAll_erase {K : PySem.W.Frag} {H : Hp} : ∀ {vs : List V} {ds : List PyData} (i : Nat), DpAll K H vs ds → DpAll K H (vs.eraseIdx i) (ds.eraseIdx i)
  | _, _, _, .nil => .nil
  | _, _, 0, .cons _ t => t
  | _, _, i + 1, .cons a t => .cons a (dpAll_erase i t)
section
variable {c : Cn} {S : Addr → Bool} {As As1 : Ads} {H H1 : Hp} {M M1 : List MO} {ρ : List Sl} {σ : L2.St} {P P' : Po} {ta tb te : TE} {tt tu : TT} {t u : TS} {s : Sl} {v w : V} {Q Q' : QS} {X : XP} {R : VK}
theorem dl_sorted {ds : List PyData} {x : PyData} (h : Dv c ta ρ M x) (hx : seqD x = some ds) (h1 : AllAlike ds) (h2 : Sortable ds ∨ ∀ d ∈ ds, ∃ xs, d = .tuple xs) (h3 : ∀ d ∈ ds, d.depth ≤ 50) (hl : ds.length ≤ sizeLine) : Dl c (tCB (rSrtD c.K) (tCons ta tNil)) ρ M (ds.mergeSort (dataLe false id)) :=
  dl_cb (da_cons h da_nil) fun S As H vs hv m R k => by
    obtain ⟨v, rfl, r⟩ := slrs1 hv
    obtain ⟨a, ws, rfl, h4, h5⟩ := dp_seq r hx
    have hq : SqL c.K H a ws ∨ SqT c.K H a ws := by
      rcases h4 with h4 | h4
      · exact .inl (hmk_sqL h4)
      · exact .inr (hmk_sqT h4)
    exact ⟨a, ws, ds, hmk S As H, rfl, hq, hmk_kp, h5, h1, h2, h3, fun p zs hp hz => own_new m hp (by rw [List.length_mergeSort]; exact hl) hz k ⟨rfl, rfl⟩⟩
theorem dl_sortedI {ns : List Int} {x : PyData} (h : Dv c ta ρ M x) (hx : seqD x = some (ns.map .int)) (hl : ns.length ≤ 100000) : Dl c (tCB (rSrtD c.K) (tCons ta tNil)) ρ M ((isort ns).map .int) :=
  (dl_sorted h hx (alike_ints' ns) (.inl (srtbl_ints ns)) depth_ints' (by rw [List.length_map]; exact Nat.le_trans hl (by decide))).cast (srt_ints ns)
/-- an own list's items sorted -/
theorem ev_sortedM {n j : Nat} {ds : List PyData} (hx : ρ[n]? = some (.m j)) (hj : M[j]? = some (.lst ds)) (h1 : AllAlike ds) (h2 : Sortable ds ∨ ∀ d ∈ ds, ∃ xs, d = .tuple xs) (h3 : ∀ d ∈ ds, d.depth ≤ 50) (q : Q (.m M.length) (M ++ [.lst (ds.mergeSort (dataLe false id))])) : EV c (tCB (rSrtD c.K) (tCons (tVar n) tNil)) ρ M Q X :=
  ev_cb (ea_cons (ev_var hx (fun z => nomatch z) (ea_nil fun S As H vs hv m R k => by
    obtain ⟨v, rfl, r⟩ := slrs1 hv
    obtain ⟨a, ea, rfl⟩ := r
    obtain ⟨b, eb, hl, ws, eH, r⟩ := m.ex hj
    rw [ea] at eb; cases eb
    exact ⟨a, ws, ds, hmk S As H, rfl, .inl (.inl (.inl eH)), hmk_kp, r, h1, h2, h3, fun p zs hp hz => own_new m hp (by rw [List.length_mergeSort]; exact hl) hz k q⟩)))

/-! ### + of two own lists, of tuples; slices; * -/
theorem rb_cat {i j : Nat} {ds es : List PyData} (hi : M[i]? = some (.lst ds)) (hj : M[j]? = some (.lst es)) (hz : ds.length + es.length ≤ 100000) (q : Q (.m M.length) (M ++ [.lst (ds ++ es)])) : RB c rCat (.m i) (.m j) M Q := fun S As H v w hv hw m R k => by
  obtain ⟨a, ea, rfl⟩ := hv
  obtain ⟨b, eb, rfl⟩ := hw
  obtain ⟨a', ea', _, vs, e1, r1⟩ := m.ex hi
  obtain ⟨b', eb', _, ws, e2, r2⟩ := m.ex hj
  rw [ea] at ea'; cases ea'
  rw [eb] at eb'; cases eb'
  refine ⟨a, b, vs, ws, rfl, rfl, e1, e2, ?_, fun p hp => own_new m hp ?_ (dpAll_append r1 r2) k q⟩
  · rw [dpAll_length r1, dpAll_length r2]; exact Nat.le_trans hz (by decide)
  · rw [List.length_append]; exact Nat.le_trans hz (by decide)
theorem dv_catT {ds es : List PyData} (ha : Dv c ta ρ M (.tuple ds)) (hb : Dv c tb ρ M (.tuple es)) (hz : ds.length + es.length ≤ 100000) : Dv c (tOp (rCatA c.K) ta tb) ρ M (.tuple (ds ++ es)) :=
  dv_op ha hb fun S As H v w hv hw m R k => by
    obtain ⟨a, vs, rfl, h1, h2⟩ := dp_tup hv
    obtain ⟨b, ws, rfl, h3, h4⟩ := dp_tup hw
    refine ⟨a, b, vs, ws, rfl, rfl, hmk_sqT h1, hmk_sqT h3, by rw [dpAll_length h2, dpAll_length h4]; exact Nat.le_trans hz (by decide), fun e => ?_, fun _ e => ?_, fun _ _ p hp => new_tup m hp (dpAll_append h2 h4) k ⟨rfl, rfl⟩⟩
    · subst e
      have : ds = [] := by cases h2; rfl
      subst this
      exact k.here ⟨rfl, rfl⟩ m hw
    · subst e
      have : es = [] := by cases h4; rfl
      subst this
      exact k.here ⟨by rw [List.append_nil], rfl⟩ m hv
def cutD (ds : List PyData) (lo hi : Option Int) : List PyData := (ds.drop (HT.sIx ds.length 0 lo)).take (HT.sIx ds.length ds.length hi - HT.sIx ds.length 0 lo)
theorem dpAll_cut {K : PySem.W.Frag} {H : Hp} {vs : List V} {ds : List PyData} (lo hi : Option Int) (r : DpAll K H vs ds) : DpAll K H (cutV vs lo hi) (cutD ds lo hi) := by
  unfold cutV cutD
  rw [dpAll_length r]
  exact dpAll_take _ (dpAll_drop _ r)
def Dox (c : Cn) (t : TO) (ρ : List Sl) (M : List MO) (o : Option Int) : Prop := ∀ S As σ H, RE c.K S As H σ ρ → RM c.K c.T S As H M → ∀ R : Option Int → Hp → Prop, (∀ As' H', Go As H As' H' → RM c.K c.T S As' H' M → R o H') → t σ H R
theorem do_none : Dox c tNoPart ρ M none := fun S As σ H e m R k => k As H (.refl _ _) m
theorem do_some {i : Int} (h : Dv c te ρ M (.int i)) : Dox c (tPart te) ρ M (some i) := fun S As σ H e m R k =>
  h S As σ H e m _ (fun s M' As' v H' ⟨e1, e2⟩ g m' r => by
    subst e1; subst e2
    cases r
    exact ⟨i, rfl, k As' H' g m'⟩) KX.none
theorem dv_sliceT {ds : List PyData} {tl th : TO} {lo hi : Option Int} (h : Dv c te ρ M (.tuple ds)) (hl : Dox c tl ρ M lo) (hh : Dox c th ρ M hi) : Dv c (tSl (rSlA c.K) te tl th) ρ M (.tuple (cutD ds lo hi)) := fun S As σ H e m R k kx =>
  h S As σ H e m _ (fun s M' As' v H' ⟨e1, e2⟩ g m' r => by
    subst e1; subst e2
    refine hl S As' σ H' (e.go g) m' _ fun As2 H2 g2 m2 => hh S As2 σ H2 ((e.go g).go g2) m2 _ fun As3 H3 g3 m3 => ?_
    have r3 : SlR c.K S As3 H3 v (.d (.tuple ds)) := SlR.go g3 (SlR.go g2 r)
    obtain ⟨a, vs, rfl, h1, h2⟩ := dp_tup r3
    have gg := (g.trans g2).trans g3
    refine ⟨a, vs, rfl, hmk_sqT h1, fun ⟨z1, z2⟩ => ?_, fun _ p hp => new_tup m3 hp (dpAll_cut lo hi h2) (k.go gg) ⟨rfl, rfl⟩⟩
    have e1 : cutD ds lo hi = ds := by
      unfold cutD
      rw [← dpAll_length h2, z1, z2, List.drop_zero, Nat.sub_zero, dpAll_length h2, List.take_length]
    exact (k.go gg).here ⟨by rw [e1], rfl⟩ m3 r3) KX.none
theorem dl_sliceL {ds : List PyData} {tl th : TO} {lo hi : Option Int} (h : Dv c te ρ M (.list ds)) (hl : Dox c tl ρ M lo) (hh : Dox c th ρ M hi) (hz : ds.length ≤ 100000) : Dl c (tSl (rSlL c.K) te tl th) ρ M (cutD ds lo hi) := fun S As σ H e m R k kx =>
  h S As σ H e m _ (fun s M' As' v H' ⟨e1, e2⟩ g m' r => by
    subst e1; subst e2
    refine hl S As' σ H' (e.go g) m' _ fun As2 H2 g2 m2 => hh S As2 σ H2 ((e.go g).go g2) m2 _ fun As3 H3 g3 m3 => ?_
    have r3 : SlR c.K S As3 H3 v (.d (.list ds)) := SlR.go g3 (SlR.go g2 r)
    obtain ⟨a, vs, rfl, h1, h2⟩ := dp_lst r3
    have gg := (g.trans g2).trans g3
    refine ⟨a, vs, rfl, hmk_sqL h1, fun p hp => own_new m3 hp ?_ (dpAll_cut lo hi h2) (k.go gg) ⟨rfl, rfl⟩⟩
    unfold cutD
    rw [List.length_take, List.length_drop]
    exact Nat.le_trans (by omega : _ ≤ ds.length) (Nat.le_trans hz (by decide))) KX.none
/-- xs.insert(i, e) at an own list -/
theorem ex_insert {n j : Nat} {ds : List PyData} {ti : TE} (hx : ρ[n]? = some (.m j)) (hj : M[j]? = some (.lst ds))
    (h : EA c (tCons ti (tCons te tNil)) ρ M (fun ss M' => ∃ i d ds', ss = [.d (.int i), .d d] ∧ 0 ≤ i ∧ i < 100000 ∧ M'[j]? = some (.lst ds') ∧ ds'.length < 100000 ∧ P.nx ρ (M'.set j (.lst (ds'.take i.toNat ++ [d] ++ ds'.drop i.toNat)))) (fun C M' => P.xp C ρ M')) :
    EX c (tDrop (tBM c.K "list" (fun x vs H Q => ∃ (l : Addr) (xs : List V) (i : Int) (y : V), x = .ref l ∧ vs = [.int i, y] ∧ H l = some (.lst xs) ∧ xs.length < sizeLine ∧ 0 ≤ i ∧ i < 2 ^ 63 ∧ Q .non (upd H l (.lst (xs.take i.toNat ++ [y] ++ xs.drop i.toNat)))) (tVar n) (tCons ti (tCons te tNil)))) ρ M P := fun S As σ H e m D k1 k2 k3 k4 k5 => by
  obtain ⟨v, e1, r⟩ := e.at_ n _ hx (fun z => nomatch z)
  obtain ⟨a, ea, rfl⟩ := r
  obtain ⟨a', ea', _, vs, eH, _⟩ := m.ex hj
  rw [ea] at ea'; cases ea'
  refine ⟨.ref a, e1, .inl ⟨rfl, vs, .inl (.inl eH)⟩, h S As σ H e m _ (fun ss M' As' ws H' ⟨i, d, ds', es, i0, i1, hj', hz, q⟩ g m' r => ?_) (k5.at_ e)⟩
  subst es
  obtain ⟨x, y, rfl, rx, ry⟩ := slrs2 r
  cases rx
  obtain ⟨b, eb, hl, zs, eH', rr⟩ := m'.ex hj'
  rw [g.ix ea] at eb; cases eb
  have hlen : zs.length = ds'.length := dpAll_length rr
  have hsz : ds'.length < sizeLine := Nat.lt_of_lt_of_le hz (by decide)
  refine ⟨a, zs, i, y, rfl, rfl, eH', by rw [hlen]; exact hsz, i0, by omega, ?_⟩
  have g2 := go_mut (o := .lst (zs.take i.toNat ++ [y] ++ zs.drop i.toNat)) m' (g.ix ea) eH' rfl (fun φ z => nomatch z)
  refine k1 _ _ As' _ _ q (g.trans g2) ((e.go g).go g2) (m'.mut (g.ix ea) eH' rfl (fun φ z => nomatch z) ⟨?_, _, upd_same, dpAll_kp g2.kpm _ _ (dpAll_append (dpAll_append (dpAll_take _ rr) (.cons ry .nil)) (dpAll_drop _ rr))⟩)
  have : (ds'.take i.toNat ++ [d] ++ ds'.drop i.toNat).length = ds'.length + 1 := by
    rw [List.length_append, List.length_append, List.length_take, List.length_drop]
    simp only [List.length_cons, List.length_nil]
    omega
  rw [this]
  exact hsz
/-- xs.pop(i) as a statement: an item goes -/
theorem ex_popAt {n j : Nat} {ds : List PyData} {ti : TE} (hx : ρ[n]? = some (.m j)) (hj : M[j]? = some (.lst ds))
    (h : EA c (tCons ti tNil) ρ M (fun ss M' => ∃ (i : Nat) (ds' : List PyData), ss = [.d (.int (i : Int))] ∧ i < ds'.length ∧ ds'.length < 100000 ∧ M'[j]? = some (.lst ds') ∧ P.nx ρ (M'.set j (.lst (ds'.eraseIdx i)))) (fun C M' => P.xp C ρ M')) :
    EX c (tDrop (tBM c.K "list" rPopAt (tVar n) (tCons ti tNil))) ρ M P := fun S As σ H e m D k1 k2 k3 k4 k5 => by
  obtain ⟨v, e1, r⟩ := e.at_ n _ hx (fun z => nomatch z)
  obtain ⟨a, ea, rfl⟩ := r
  obtain ⟨a', ea', _, vs, eH, _⟩ := m.ex hj
  rw [ea] at ea'; cases ea'
  refine ⟨.ref a, e1, .inl ⟨rfl, vs, .inl (.inl eH)⟩, h S As σ H e m _ (fun ss M' As' ws H' ⟨i, ds', es, i1, hz, hj', q⟩ g m' r => ?_) (k5.at_ e)⟩
  subst es
  obtain ⟨x, rfl, rx⟩ := slrs1 r
  cases rx
  obtain ⟨b, eb, hl, zs, eH', rr⟩ := m'.ex hj'
  rw [g.ix ea] at eb; cases eb
  have hlen : zs.length = ds'.length := dpAll_length rr
  have hi : i < zs.length := by rw [hlen]; exact i1
  refine ⟨a, zs, (i : Int), i, zs[i]'hi, rfl, rfl, eH', (by omega), (by omega), ?_, List.getElem?_eq_getElem hi, ?_⟩
  · have := PySem.StrLaws.seqIndex_nonneg (i := (i : Int)) (n := zs.length) (by omega) (by omega)
    simpa using this
  have g2 := go_mut (o := .lst (zs.eraseIdx i)) m' (g.ix ea) eH' rfl (fun φ z => nomatch z)
  refine k1 _ _ As' _ _ q (g.trans g2) ((e.go g).go g2) (m'.mut (g.ix ea) eH' rfl (fun φ z => nomatch z) ⟨?_, _, upd_same, dpAll_kp g2.kpm _ _ (dpAll_erase i rr)⟩)
  exact Nat.le_trans (List.length_eraseIdx_le ..) hl

/-! ### less is known of an own object -/
def MWk : MO → MO → Prop := fun m m' => m = m' ∨ ∃ φ : HO → Prop, m' = .P φ ∧ ∀ (K : PySem.W.Frag) S As H a, MOR K S As H a m → MOR K S As H a (.P φ)
inductive MWks : List MO → List MO → Prop where
  | nil : MWks [] []
  | cons {m m' : MO} {M M' : List MO} : MWk m m' → MWks M M' → MWks (m :: M) (m' :: M')
theorem MWks.refl : ∀ M : List MO, MWks M M
  | [] => .nil
  | m :: M => .cons (.inl rfl) (MWks.refl M)
theorem MWks.len : ∀ {M M' : List MO}, MWks M M' → M.length = M'.length
  | _, _, .nil => rfl
  | _, _, .cons _ t => by rw [List.length_cons, List.length_cons, t.len]
theorem MWks.get : ∀ {M M' : List MO} {i : Nat} {m' : MO}, MWks M M' → M'[i]? = some m' → ∃ m, M[i]? = some m ∧ MWk m m'
  | _, _, _, _, .nil, h => by simp at h
  | _, _, 0, _, .cons a _, h => by simp at h; subst h; exact ⟨_, rfl, a⟩
  | _, _, i + 1, _, .cons _ t, h => by
    obtain ⟨m, h1, h2⟩ := MWks.get (i := i) t (by simpa using h)
    exact ⟨m, by simpa using h1, h2⟩
theorem RM.mw {M' : List MO} (m : RM c.K c.T S As H M) (w : MWks M M') : RM c.K c.T S As H M' := ⟨m.len.trans w.len, m.nd, m.sS, m.sd, fun i a mo e1 e2 => by
  obtain ⟨mo0, h1, h2⟩ := w.get e2
  have h0 := m.at_ i a mo0 e1 h1
  rcases h2 with rfl | ⟨φ, rfl, h⟩
  · exact h0
  · exact h _ _ _ _ _ h0, m.tb, m.st⟩
theorem EV.mw (h : EV c te ρ M (fun s M' => ∃ M2, MWks M' M2 ∧ Q s M2) X) : EV c te ρ M Q X := fun S As σ H e m R k kx =>
  h S As σ H e m R (fun s M' As' v H' ⟨M2, w, q⟩ g m' r => k s M2 As' v H' q g (m'.mw w) r) kx
theorem EX.mw0 {M' : List MO} (h : EX c t ρ M' P) (w : MWks M M') : EX c t ρ M P := fun S As σ H e m D k1 k2 k3 k4 k5 => h S As σ H e (m.mw w) D k1 k2 k3 k4 k5
/-! ### the bag: a list of two ints -/
def BagOk (x y : Int) : Prop := 0 ≤ x ∧ x < 10 ^ 60 ∧ 1 ≤ y ∧ y < 2147483647
def BagO : HO → Prop := fun o => ∃ x y, o = .lst [.int x, .int y] ∧ BagOk x y
def bag : MO := .P BagO
theorem bag_wk {x y : Int} (h : BagOk x y) : MWk (.lst [.int x, .int y]) bag := .inr ⟨BagO, rfl, fun K S As H a ⟨_, vs, e, r⟩ => by
  cases r with
  | cons a b =>
    cases b with
    | cons b d =>
      cases d
      cases a; cases b
      exact ⟨_, e, rfl, rfl, x, y, rfl, h⟩⟩
/-- a def whose first object is the bag: it is opened -/
theorem ex_open {j : Nat} (hj : M[j]? = some bag) (h : ∀ x y, BagOk x y → EX c t ρ (M.set j (.lst [.int x, .int y])) P) : EX c t ρ M P := fun S As σ H e m D k1 k2 k3 k4 k5 => by
  obtain ⟨a, ea, o, eo, _, _, x, y, rfl, hb⟩ := m.ex hj
  refine h x y hb S As σ H e ⟨?_, m.nd, m.sS, m.sd, fun i b mo e1 e2 => ?_, m.tb, m.st⟩ D k1 k2 k3 k4 k5
  · rw [List.length_set]; exact m.len
  · by_cases hi : j = i
    · subst hi
      rw [List.getElem?_set_self (List.getElem?_eq_some_iff.mp hj).1] at e2
      cases e2
      rw [ea] at e1; cases e1
      exact ⟨(show 2 ≤ sizeLine by decide), _, eo, .cons (.int _) (.cons (.int _) .nil)⟩
    · rw [List.getElem?_set_ne hi] at e2
      exact m.at_ i b mo e1 e2
end
end DL

set_option Elab.async false
set_option linter.all false
set_option autoImplicit false
set_option maxRecDepth 100000
set_option maxHeartbeats 2000000
/-! DL: comprehensions that are determined. -/
namespace DL
open PySem PySem.Spec PyProof.Rows L2 PySem.W
section
variable {c : Cn} {S : Addr → Bool} {As As1 : Ads} {H H1 : Hp} {M M1 : List MO} {ρ : List Sl} {σ : L2.St} {P P' : Po} {ta tb te : TE} {tt tu : TT} {t u : TS} {s : Sl} {v w : V} {Q Q' : QS} {X : XP} {R : VK}
theorem filter_take {α : Type} (p : α → Bool) {as : List α} {i : Nat} {a : α} (h : as[i]? = some a) : (as.take (i + 1)).filter p = (as.take i).filter p ++ (if p a = true then [a] else []) := by
  rw [List.take_add_one, h, List.filter_append]
  cases hp : p a <;> simp [hp]
/-- [f a for a in as if p a], over any source of the items enc a -/
theorem dl_lc {α : Type} {wi : TI} {g : TG} {tc : TT} {vs js : List Nat} {kp : List MO → Prop} (as : List α) (enc : α → List PyData) (p : α → Bool) (f : α → PyData) (hjs : ∀ j ∈ js, j ∈ vs) (hkp : kp M) (hl : as.length < 100000)
    (h : IT c wi g ρ M js kp (fun items M1 => items = as.map enc ∧ M1 = M) X0)
    (ht : ∀ a ∈ as, Dt c tc (setD (wipeS ρ vs) js (enc a)) M (p a)) (he : ∀ a ∈ as, p a = true → Dv c te (setD (wipeS ρ vs) js (enc a)) M (f a)) : Dl c (tLc wi g tc te vs) ρ M ((as.filter p).map f) := by
  refine ev_lc hjs (fun S As σ H e m R k kx => h S As σ H e m R (fun items M1 As1 J H1 ⟨e1, e2⟩ g1 m1 wk => k items M1 As1 J H1 ?_ g1 m1 wk) kx)
  subst e1; subst e2
  refine ⟨fun i acc M' => acc = ((as.take i).filter p).map f ∧ M' = M1, ⟨rfl, rfl⟩, fun i acc M' ⟨e1, e2⟩ => ⟨e2 ▸ hkp, ?_⟩, fun i ds acc M' hi ⟨e1, e2⟩ => ?_, fun acc M' ⟨e1, e2⟩ => ?_⟩
  · rw [e1, List.length_map]
    exact Nat.lt_of_le_of_lt (List.length_filter_le ..) (Nat.lt_of_le_of_lt (by rw [List.length_take]; omega) hl)
  · subst e1; subst e2
    rw [List.getElem?_map] at hi
    cases ha : as[i]? with
    | none => rw [ha] at hi; cases hi
    | some a =>
      rw [ha] at hi
      obtain rfl := (Option.some.inj hi)
      have hm := List.mem_of_getElem? ha
      have hf := filter_take p ha
      refine et_dt (ht a hm) ⟨fun hp => ev_dv (he a hm hp) ⟨_, rfl, ?_, rfl⟩, fun hp => ⟨?_, rfl⟩⟩
      · rw [hf, if_pos hp, List.map_append]; rfl
      · rw [hf, if_neg (by rw [hp]; exact Bool.false_ne_true), List.append_nil]
  · subst e1; subst e2
    rw [List.length_map, List.take_length]
    exact ⟨rfl, rfl⟩
theorem dt_yes : Dt c tYes ρ M true := fun S As σ H e m R k kx => k.here ⟨rfl, rfl⟩ m
theorem dl_lcM {α : Type} {wi : TI} {g : TG} {vs js : List Nat} {kp : List MO → Prop} (as : List α) (enc : α → List PyData) (f : α → PyData) (hjs : ∀ j ∈ js, j ∈ vs) (hkp : kp M) (hl : as.length < 100000)
    (h : IT c wi g ρ M js kp (fun items M1 => items = as.map enc ∧ M1 = M) X0)
    (he : ∀ a ∈ as, Dv c te (setD (wipeS ρ vs) js (enc a)) M (f a)) : Dl c (tLc wi g tYes te vs) ρ M (as.map f) := by
  have := dl_lc as enc (fun _ => true) f hjs hkp hl h (fun _ _ => dt_yes) (fun a ha _ => he a ha)
  rw [show as.filter (fun _ => true) = as from List.filter_eq_self.mpr fun _ _ => rfl] at this
  exact this
theorem ones_map {α : Type} (as : List α) (enc : α → PyData) : ones (as.map enc) = as.map fun a => [enc a] := by
  unfold ones; rw [List.map_map]; rfl
/-- the sources, determined -/
theorem dit_tup {j : Nat} {ds : List PyData} {items : List (List PyData)} (h : Dv c te ρ M (.tuple ds)) (e : ones ds = items) : IT c (iTup c.K te) (gName j) ρ M [j] kp0 (fun it M1 => it = items ∧ M1 = M) X0 :=
  it_tup (ev_dv h ⟨_, rfl, e, rfl⟩)
theorem dit_lst {j : Nat} {ds : List PyData} {items : List (List PyData)} (h : Dv c te ρ M (.list ds)) (e : ones ds = items) : IT c (iList c.K te) (gName j) ρ M [j] kp0 (fun it M1 => it = items ∧ M1 = M) X0 :=
  it_lst (ev_dv h ⟨_, rfl, e, rfl⟩)
theorem dit_own {j i n : Nat} {ds : List PyData} {items : List (List PyData)} (hx : ρ[i]? = some (.m n)) (hn : M[n]? = some (.lst ds)) (e : ones ds = items) : IT c (iList c.K (tVar i)) (gName j) ρ M [j] (fun M => M[n]? = some (.lst ds)) (fun it M1 => it = items ∧ M1 = M) X0 :=
  it_own hx hn ⟨e, rfl⟩
theorem dit_rng1 {j : Nat} {n : Int} {items : List (List PyData)} (h : Dv c te ρ M (.int n)) (h1 : -1000000 ≤ n) (h2 : n ≤ 1000000) (e : ones (rngD 0 n.toNat) = items) : IT c (iRng1 (tCons te tNil)) (gName j) ρ M [j] kp0 (fun it M1 => it = items ∧ M1 = M) X0 :=
  it_rng1 (ea_da (da_cons h da_nil) ⟨n, rfl, h1, h2, e, rfl⟩)
theorem dit_rng2 {j : Nat} {lo n : Int} {items : List (List PyData)} (h : Dv c ta ρ M (.int lo)) (h' : Dv c tb ρ M (.int n)) (h1 : -1000000000000 ≤ lo) (h2 : lo ≤ 1000000000000) (h3 : -1000000000000 ≤ n) (h4 : n ≤ 1000000000000) (e : ones (rngD lo (n - lo).toNat) = items) :
    IT c (iRng2 (tCons ta (tCons tb tNil))) (gName j) ρ M [j] kp0 (fun it M1 => it = items ∧ M1 = M) X0 :=
  it_rng2 (ea_da (da_cons h (da_cons h' da_nil)) ⟨lo, n, rfl, h1, h2, h3, h4, e, rfl⟩)
theorem dit_enum {j k : Nat} {ds : List PyData} {items : List (List PyData)} (h : Dv c te ρ M (.list ds)) (e : prs (rngD 0 ds.length) ds = items) :
    IT c (iEnum c.K (tCons te tNil)) (gTup c.K 2 (gCons (gName j) (gCons (gName k) gNil))) ρ M [j, k] kp0 (fun it M1 => it = items ∧ M1 = M) X0 := it_enum (ea_da (da_cons h da_nil) ⟨ds, rfl, e, rfl⟩)
theorem dit_zipT {j k : Nat} {ds es : List PyData} {items : List (List PyData)} (h : Dv c ta ρ M (.tuple ds)) (h' : Dv c tb ρ M (.tuple es)) (e : prs ds es = items) :
    IT c (RZ.iZipA c.K (tCons ta (tCons tb tNil))) (gTup c.K 2 (gCons (gName j) (gCons (gName k) gNil))) ρ M [j, k] kp0 (fun it M1 => it = items ∧ M1 = M) X0 := it_zipT (ea_da (da_cons h (da_cons h' da_nil)) ⟨ds, es, rfl, e, rfl⟩)
theorem dit_zipL {j k : Nat} {ds es : List PyData} {items : List (List PyData)} (h : Dv c ta ρ M (.list ds)) (h' : Dv c tb ρ M (.list es)) (e : prs ds es = items) :
    IT c (RZ.iZipA c.K (tCons ta (tCons tb tNil))) (gTup c.K 2 (gCons (gName j) (gCons (gName k) gNil))) ρ M [j, k] kp0 (fun it M1 => it = items ∧ M1 = M) X0 := it_zipL (ea_da (da_cons h (da_cons h' da_nil)) ⟨ds, es, rfl, e, rfl⟩)
/-- a for whose turns are determined: the state behind i turns -/
theorem ex_forD {α β : Type} {wi : TI} {g : TG} {tb : TS} {js : List Nat} {kp : List MO → Prop} (as : List α) (enc : α → List PyData) (Γ : β → List Sl) (μ : β → List MO) (b0 : β) (step : β → α → β) (hk : ∀ b, kp (μ b))
    (h : IT c wi g (Γ b0) (μ b0) js kp (fun items M1 => items = as.map enc ∧ M1 = μ b0) X0)
    (hs : ∀ i a, as[i]? = some a → ∀ b, b = (as.take i).foldl step b0 → EX c tb (setD (Γ b) js (enc a)) (μ b) { P with nx := fun ρ2 M2 => Wk ρ2 (Γ (step b a)) ∧ M2 = μ (step b a), ct := fun ρ2 M2 => Wk ρ2 (Γ (step b a)) ∧ M2 = μ (step b a), bk := P.nx })
    (hd : P.nx (Γ (as.foldl step b0)) (μ (as.foldl step b0))) : EX c (tFor wi g tb) (Γ b0) (μ b0) P := by
  refine ex_for (fun S As σ H e m R k kx => h S As σ H e m R (fun items M1 As1 J H1 ⟨e1, e2⟩ g1 m1 wk => k items M1 As1 J H1 ?_ g1 m1 wk) KX.none)
  subst e1; subst e2
  refine ⟨fun i ρ' M' => ρ' = Γ ((as.take i).foldl step b0) ∧ M' = μ ((as.take i).foldl step b0), ⟨rfl, rfl⟩, fun i ρ' M' ⟨_, e2⟩ => e2 ▸ hk _, fun i ds ρ' M' hi ⟨e1, e2⟩ => ?_, fun ρ' M' ⟨e1, e2⟩ => ?_⟩
  · subst e1; subst e2
    rw [List.getElem?_map] at hi
    cases ha : as[i]? with
    | none => rw [ha] at hi; cases hi
    | some a =>
      rw [ha] at hi
      obtain rfl := (Option.some.inj hi)
      have hf : (as.take (i + 1)).foldl step b0 = step ((as.take i).foldl step b0) a := by rw [List.take_add_one, ha, List.foldl_append]; rfl
      refine EX.imp (hs i a ha _ rfl) (fun ρ2 M2 ⟨w, e⟩ => ⟨_, w, ?_, ?_⟩) (fun _ _ q => q) (fun _ _ q => q) (fun ρ2 M2 ⟨w, e⟩ => ⟨_, w, ?_, ?_⟩) (fun _ _ _ q => q)
      · rw [hf]
      · rw [hf]; exact e
      · rw [hf]
      · rw [hf]; exact e
  · subst e1; subst e2
    rw [List.length_map, List.take_length]
    exact hd
end
end DL

set_option Elab.async false
set_option linter.all false
set_option autoImplicit false
set_option maxRecDepth 100000
set_option maxHeartbeats 2000000
/-! DL: sum over lists and tuples. -/
namespace PySem.W
open PySem PySem.Spec PySem.Calls PyProof.Rows PyProof.V
theorem sumT_raw {prog : Program} {w : World} {A : Around} {E : Value → Shared → Prop} {s : Shared} {t : Addr} {its : List Value} {ns : List Int} {Q : Value → Shared → Prop}
    (hh : A.handled = none) (hl : s.heap.IsTuple t its.toArray) (hi : IntsAre its ns)
    (h : ∀ h' tk t', (∀ b o, s.heap.get? b = some o → h'.get? b = some o) → Q (.int ns.sum t') { s with heap := h', toks := tk }) : wpAny (model prog w) A (call (.builtin "sum") [.ref t]) Q E s := by
  obtain ⟨xs, e⟩ := hi.allInts.items
  have hn : numsOf (intItems xs).toList = ns := by rw [← e]; exact hi.numsOf
  rw [nums_intItems] at hn
  rw [e] at hl
  refine ktm_sumG hh hl fun h' tk t' hk => ?_
  have := h h' tk t' hk
  rw [preSum_eq, List.take_of_length_le (by simp), hn]; exact this
end PySem.W
namespace DL
open PySem PySem.Spec PyProof.Rows L2 PySem.W
def rSumA (K : PySem.W.Frag) : List V → Hp → VK → Prop := fun vs H Q => ∃ (a : Addr) (ns : List Int), vs = [V.ref a] ∧ (SqL K H a (ns.map V.int) ∨ SqT K H a (ns.map V.int)) ∧ Q (.int ns.sum) H
theorem cr_sumA {X : Cx} (hc : X.calm = true) : CallR X (.builtin "sum") (rSumA X.K) := by
  intro pins s σ H vs us Q I r h
  obtain ⟨a, ns, rfl, hs, q⟩ := h
  rw [Vals.ref1 r]
  rcases hs with hs | hs
  · obtain ⟨its, rv, hl, _⟩ := I.list hs
    exact sum_raw (I.ok.hd hc) hl.isList rv.ints fun h' tk t' hk => ⟨.int _, H, I.kept hk, ⟨_, rfl⟩, q⟩
  · obtain ⟨its, rv, hl, _⟩ := I.tuple hs
    obtain ⟨o, ho, hcl, hd1, hd2⟩ := hl
    exact sumT_raw (I.ok.hd hc) ⟨o, ho, hcl, _, hd2⟩ rv.ints fun h' tk t' hk => ⟨.int _, H, I.kept hk, ⟨_, rfl⟩, q⟩
section
variable {c : Cn} {S : Addr → Bool} {As As1 : Ads} {H H1 : Hp} {M M1 : List MO} {ρ : List Sl} {σ : L2.St} {P P' : Po} {ta tb te : TE} {tt tu : TT} {t u : TS} {s : Sl} {v w : V} {Q Q' : QS} {X : XP} {R : VK}
theorem dv_sumA {d : PyData} {ns : List Int} (h : Dv c ta ρ M d) (e : seqD d = some (ns.map .int)) : Dv c (tCB (rSumA c.K) (tCons ta tNil)) ρ M (.int ns.sum) :=
  dv_cb (da_cons h da_nil) fun S As H vs hv m R k => by
    obtain ⟨v, rfl, r⟩ := slrs1 hv
    obtain ⟨a, ws, rfl, h1, h2⟩ := dp_seq r.dp e
    have := dp_ints h2
    subst this
    exact ⟨a, ns, rfl, h1, k.here ⟨rfl, rfl⟩ m (.int _)⟩
theorem dv_sumT {ns : List Int} (h : Dv c ta ρ M (.tuple (ns.map .int))) : Dv c (tCB (rSumA c.K) (tCons ta tNil)) ρ M (.int ns.sum) := dv_sumA h rfl
theorem dv_sumL {ns : List Int} (h : Dv c ta ρ M (.list (ns.map .int))) : Dv c (tCB (rSumA c.K) (tCons ta tNil)) ρ M (.int ns.sum) := dv_sumA h rfl
end
end DL

set_option Elab.async false
set_option linter.all false
set_option autoImplicit false
set_option maxRecDepth 100000
set_option maxHeartbeats 2000000
/-! DL: own objects given up; reading own lists; the bag. -/
namespace DL
open PySem PySem.Spec PyProof.Rows L2 PySem.W
section
variable {c : Cn} {S : Addr → Bool} {As As1 As2 : Ads} {H H1 : Hp} {M M1 M2 : List MO} {ρ : List Sl} {σ : L2.St} {P P' : Po} {ta tb te : TE} {tt tu : TT} {t u : TS} {s : Sl} {v w : V} {Q Q' : QS} {X : XP} {R : VK}
theorem kp_sub (h : ∀ a ∈ As2, a ∈ As) : Kp (hmk S As H) (hmk S As2 H) := fun a o e _ => by
  obtain ⟨h1, h2, h3⟩ := hmk_some e
  exact hmk_of h1 (fun z => h2 (h a z)) h3
theorem RM.sub (m : RM c.K c.T S As H M) (h : ∀ a ∈ As2, a ∈ As) (nd : As2.Nodup) (len : As2.length = M2.length)
    (hat : ∀ (i : Nat) (a : Addr) (mo : MO), As2[i]? = some a → M2[i]? = some mo → ∃ k : Nat, As[k]? = some a ∧ M[k]? = some mo) : RM c.K c.T S As2 H M2 := by
  refine ⟨len, nd, fun a ha => m.sS a (h a ha), m.sd, fun i a mo e1 e2 => ?_, m.tb, m.st⟩
  obtain ⟨k, e3, e4⟩ := hat i a mo e1 e2
  have h0 := m.at_ k a mo e3 e4
  cases mo with
  | lst ds =>
    obtain ⟨z, vs, e, q⟩ := h0
    exact ⟨z, vs, e, dpAll_kp (kp_sub h) _ _ q⟩
  | dd fz kv =>
    obtain ⟨z, vs, e, q⟩ := h0
    exact ⟨z, vs, e, dpAll_kp (kp_sub h) _ _ q⟩
  | ho o => exact h0
  | P φ => exact h0
theorem Go.sub {As' : Ads} {H' : Hp} {r2 : Ads} (g : Go As H As' H') (h : ∀ a ∈ As ++ r2, a ∈ As') : Go As H (As ++ r2) H' := by
  refine ⟨⟨r2, rfl⟩, fun a o e n => ?_, g.dm⟩
  obtain ⟨n', k⟩ := g.kp a o e n
  exact ⟨fun z => n' (h a z), k⟩
/-- a whole body gives up its own objects, but the one that it returns -/
theorem EX.lose (h : EX c t ρ M { P with rt := fun s M' => ∃ M1 r, M' = M1 ++ r ∧ M1.length = M.length ∧ (notM s ∧ Q s M1 ∨ ∃ (i : Nat) (mo : MO), s = .m (M.length + i) ∧ r[i]? = some mo ∧ Q (.m M.length) (M1 ++ [mo])) }) (e : P.rt = Q) : EX c t ρ M P := fun S As σ H e1 m D k1 k2 k3 k4 k5 => by
  subst e
  refine h S As σ H e1 m D k1 (fun s M' As' v H' q g m' r => ?_) k3 k4 k5
  obtain ⟨M1, rM, rfl, hl, q⟩ := q
  obtain ⟨rA, eA⟩ := g.pre
  subst eA
  have hlen := m'.len
  rw [List.length_append, List.length_append, hl, ← m.len] at hlen
  have hr : rA.length = rM.length := by omega
  have nd := List.nodup_append.mp m'.nd
  rcases q with ⟨hn, q⟩ | ⟨i, mo, rfl, hi, q⟩
  · have hs : ∀ a ∈ As ++ [], a ∈ As ++ rA := fun a ha => by rw [List.append_nil] at ha; exact List.mem_append_left _ ha
    have m2 : RM c.K c.T S (As ++ []) H' M1 := m'.sub hs (by rw [List.append_nil]; exact nd.1) (by rw [List.append_nil, m.len, hl]) (fun i a mo a1 a2 => ⟨i, by
      rw [List.append_nil] at a1
      rw [List.getElem?_append_left (List.getElem?_eq_some_iff.mp a1).1]; exact a1, by
      rw [List.getElem?_append_left (List.getElem?_eq_some_iff.mp a2).1]; exact a2⟩)
    refine k2 s M1 (As ++ []) v H' q (g.sub hs) m2 ?_
    cases s with
    | un => trivial
    | d x => exact dp_kp (kp_sub hs) _ _ r
    | v w => exact r
    | f Φ => exact fun S' As2 H2 k => r S' As2 H2 ((kp_sub hs).trans k)
    | pr a b => exact hn.elim
    | ob C n1 n2 a b => exact hn.elim
    | m i => exact hn.elim
  · obtain ⟨p, ep, rfl⟩ := r
    rw [← m.len, List.getElem?_append_right (by omega), Nat.add_sub_cancel_left] at ep
    have hs : ∀ a ∈ As ++ [p], a ∈ As ++ rA := fun a ha => by
      rcases List.mem_append.mp ha with z | z
      · exact List.mem_append_left _ z
      · simp at z; subst z; exact List.mem_append_right _ (List.mem_of_getElem? ep)
    have hp : p ∉ As := fun z => nd.2.2 p z p (List.mem_of_getElem? ep) rfl
    have m2 : RM c.K c.T S (As ++ [p]) H' (M1 ++ [mo]) := m'.sub hs (by
        rw [List.nodup_append]
        exact ⟨nd.1, by simp, fun a ha b hb => by simp at hb; subst hb; exact fun z => hp (z ▸ ha)⟩) (by rw [List.length_append, List.length_append, m.len, hl]; rfl) (fun j a mo' a1 a2 => by
        rcases mem_app_ix a1 with a1 | ⟨ej, rfl⟩
        · have hj := (List.getElem?_eq_some_iff.mp a1).1
          refine ⟨j, by rw [List.getElem?_append_left hj]; exact a1, ?_⟩
          rw [List.getElem?_append_left (by rw [hl, ← m.len]; exact hj)] at a2 ⊢
          exact a2
        · rw [List.getElem?_append_right (by rw [ej, m.len, hl]; exact Nat.le_refl _)] at a2
          have : j - M1.length = 0 := by rw [ej, m.len, hl]; omega
          rw [this] at a2
          simp at a2; subst a2
          refine ⟨As.length + i, by rw [List.getElem?_append_right (by omega), Nat.add_sub_cancel_left]; exact ep, ?_⟩
          rw [m.len, ← hl, List.getElem?_append_right (by omega), Nat.add_sub_cancel_left]
          exact hi)
    exact k2 (.m M.length) _ (As ++ [p]) _ H' q (g.sub hs) m2 ⟨p, by rw [← m.len]; simp, rfl⟩
/-- a value that reads as data, own lists too -/
def Rd (c : Cn) (t : TE) (ρ : List Sl) (M : List MO) (d : PyData) : Prop := EV c t ρ M (fun s M' => M' = M ∧ (s = .d d ∨ ∃ j ds, s = .m j ∧ M[j]? = some (.lst ds) ∧ d = .list ds)) X0
theorem rd_dv {d : PyData} (h : Dv c te ρ M d) : Rd c te ρ M d := ev_dv h ⟨rfl, .inl rfl⟩
theorem rd_m {i j : Nat} {ds : List PyData} (h : ρ[i]? = some (.m j)) (hj : M[j]? = some (.lst ds)) : Rd c (tVar i) ρ M (.list ds) := ev_var h (fun z => nomatch z) ⟨rfl, .inr ⟨j, ds, rfl, hj, rfl⟩⟩
theorem rd_dp {d : PyData} (m : RM c.K c.T S As H M) (hs : s = .d d ∨ ∃ j ds, s = .m j ∧ M[j]? = some (.lst ds) ∧ d = .list ds) (r : SlR c.K S As H v s) : Dp c.K H v d := by
  rcases hs with rfl | ⟨j, ds, rfl, hj, rfl⟩
  · exact r.dp
  · obtain ⟨a, ea, rfl⟩ := r
    obtain ⟨b, eb, _, vs, eH, rr⟩ := m.ex hj
    rw [ea] at eb; cases eb
    exact .lst (.inl (.inl eH)) (dpAll_kp hmk_kp _ _ rr)
theorem dv_opR {r : R2} {x y z : PyData} (ha : Rd c ta ρ M x) (hb : Rd c tb ρ M y) (hr : ∀ S As H v w, Dp c.K H v x → Dp c.K H w y → RM c.K c.T S As H M → ∀ R, KS c S As H (fun s M' => s = .d z ∧ M' = M) R → r v w H R) : Dv c (tOp r ta tb) ρ M z :=
  ev_op (EV.imp ha (fun s M' ⟨e, hs⟩ => by
    subst e
    exact EV.imp hb (fun s2 M2 ⟨e2, hs2⟩ => by
      subst e2
      exact fun S As H v w hv hw m R k => hr S As H v w (rd_dp m hs hv) (rd_dp m hs2 hw) m R k) fun _ _ z => z) fun _ _ z => z)
theorem dv_eqR {x y : PyData} (ha : Rd c ta ρ M x) (hb : Rd c tb ρ M y) (hx : SeqAt.shaped x = true) (hy : SeqAt.shaped y = true) : Dv c (tOp (rEqD c.K) ta tb) ρ M (.bool (PyData.eqv x y)) :=
  dv_opR ha hb fun S As H v w hv hw m R k => ⟨x, y, hv, hw, hx, hy, k.here ⟨rfl, rfl⟩ m (.bl _)⟩
theorem dv_neR {x y : PyData} (ha : Rd c ta ρ M x) (hb : Rd c tb ρ M y) (hx : SeqAt.shaped x = true) (hy : SeqAt.shaped y = true) : Dv c (tOp (rNeD c.K) ta tb) ρ M (.bool (!PyData.eqv x y)) :=
  dv_opR ha hb fun S As H v w hv hw m R k => ⟨x, y, hv, hw, hx, hy, k.here ⟨rfl, rfl⟩ m (.bl _)⟩
/-! ### the bag -/
theorem setSelf {M : List MO} {j : Nat} {m : MO} (h : M[j]? = some m) : M.set j m = M := by
  apply List.ext_getElem?
  intro i
  by_cases hi : j = i
  · subst hi
    rw [List.getElem?_set_self (List.getElem?_eq_some_iff.mp h).1, h]
  · rw [List.getElem?_set_ne hi]
theorem okM_cons {j : Nat} {ds : List PyData} : ∀ s ∈ Sl.m j :: ds.map Sl.d, okM j s := fun s hs => by
  rcases List.mem_cons.mp hs with rfl | hs
  · exact rfl
  · obtain ⟨d, _, rfl⟩ := List.mem_map.mp hs
    trivial
theorem inM_map (j : Nat) (ds : List PyData) : (Sl.m j :: ds.map Sl.d).map (inM j) = .m 0 :: ds.map .d := by
  rw [List.map_cons, List.map_map]; rfl
/-- a call of a def that is handed the bag and gives back data -/
theorem ev_bagA {W : Wd} {tr : TA} {E : XK} {i j : Nat} (post : PyData → Prop) (hb : ρ[i]? = some (.m j)) (hj : M[j]? = some bag)
    (h : EA c tr ρ M (fun ss M1 => ∃ ds : List PyData, ss = ds.map .d ∧ M1[j]? = some bag ∧ (∀ Q' : QS, (∀ z, post z → Q' (.d z) [bag]) → W (.m 0 :: ds.map .d) [bag] Q' X0) ∧ ∀ z, post z → Q (.d z) M1) X) : EV c (tCall (spW c.K c.T W) [] E (tCons (tVar i) tr)) ρ M Q X :=
  ev_callM (ea_cons (ev_var hb (fun z => nomatch z) (EA.imp h (fun ss M1 ⟨ds, es, hj1, hW, q⟩ => by
    subst es
    refine ⟨j, bag, hj1, okM_cons, ?_⟩
    rw [inM_map]
    exact hW _ fun z hz => ⟨bag, [], rfl, by rw [setSelf hj1, List.append_nil]; exact q z hz⟩) fun _ _ z => z)))
theorem ev_bag {W : Wd} {tr : TA} {E : XK} {i j : Nat} {ds : List PyData} (post : PyData → Prop) (hb : ρ[i]? = some (.m j)) (hj : M[j]? = some bag) (h : Da c tr ρ M ds)
    (hW : ∀ Q' : QS, (∀ z, post z → Q' (.d z) [bag]) → W (.m 0 :: ds.map .d) [bag] Q' X0) (q : ∀ z, post z → Q (.d z) M) : EV c (tCall (spW c.K c.T W) [] E (tCons (tVar i) tr)) ρ M Q X :=
  ev_bagA post hb hj (ea_da h ⟨ds, rfl, hj, hW, q⟩)
theorem ex_cut {J : QE} (h : EX c t ρ M { P with nx := J }) (h2 : ∀ ρ' M', J ρ' M' → EX c u ρ' M' P) : EX c (tSeq t u) ρ M P :=
  ex_seq (EX.imp h (fun _ _ q => h2 _ _ q) (fun _ _ q => q) (fun _ _ q => q) (fun _ _ q => q) fun _ _ _ q => q)
/-! ### parts that are drawn -/
theorem ev_i0 {g : Int → Int → Int} (ha : EV c ta ρ M (fun s M1 => ∃ i, s = .d (.int i) ∧ EV c tb ρ M1 (fun s M2 => ∃ j, s = .d (.int j) ∧ Q (.d (.int (g i j))) M2) X) X) : EV c (tOp (rI0 fun i j => .int (g i j)) ta tb) ρ M Q X :=
  ev_op (EV.imp ha (fun s M1 ⟨i, e, h⟩ => by
    subst e
    exact EV.imp h (fun s M2 ⟨j, e, q⟩ => by subst e; exact rb_I0 (s := .d (.int (g i j))) (fun _ _ _ => Dp.int _) q) fun _ _ z => z) fun _ _ z => z)
theorem ev_iI {C : Int → Int → Prop} {g : Int → Int → Int} (ha : EV c ta ρ M (fun s M1 => ∃ i, s = .d (.int i) ∧ EV c tb ρ M1 (fun s M2 => ∃ j, s = .d (.int j) ∧ C i j ∧ Q (.d (.int (g i j))) M2) X) X) : EV c (tOp (rI C fun i j => .int (g i j)) ta tb) ρ M Q X :=
  ev_op (EV.imp ha (fun s M1 ⟨i, e, h⟩ => by
    subst e
    exact EV.imp h (fun s M2 ⟨j, e, hc, q⟩ => by subst e; exact rb_I (s := .d (.int (g i j))) hc (fun _ _ _ => Dp.int _) q) fun _ _ z => z) fun _ _ z => z)
theorem ev_b0 {g : Int → Int → Bool} (ha : EV c ta ρ M (fun s M1 => ∃ i, s = .d (.int i) ∧ EV c tb ρ M1 (fun s M2 => ∃ j, s = .d (.int j) ∧ Q (.d (.bool (g i j))) M2) X) X) : EV c (tOp (rI0 fun i j => .bl (g i j)) ta tb) ρ M Q X :=
  ev_op (EV.imp ha (fun s M1 ⟨i, e, h⟩ => by
    subst e
    exact EV.imp h (fun s M2 ⟨j, e, q⟩ => by subst e; exact rb_I0 (s := .d (.bool (g i j))) (fun _ _ _ => Dp.bl _) q) fun _ _ z => z) fun _ _ z => z)
theorem ev_eq (ha : EV c ta ρ M (fun s M1 => ∃ x, s = .d x ∧ SeqAt.shaped x = true ∧ EV c tb ρ M1 (fun s M2 => ∃ y, s = .d y ∧ SeqAt.shaped y = true ∧ Q (.d (.bool (PyData.eqv x y))) M2) X) X) : EV c (tOp (rEqD c.K) ta tb) ρ M Q X :=
  ev_op (EV.imp ha (fun s M1 ⟨x, e, hx, h⟩ => by
    subst e
    exact EV.imp h (fun s M2 ⟨y, e, hy, q⟩ => by subst e; exact fun S As H v w hv hw m R k => ⟨x, y, hv.dp, hw.dp, hx, hy, k.here q m (.bl _)⟩) fun _ _ z => z) fun _ _ z => z)
theorem ev_ne (ha : EV c ta ρ M (fun s M1 => ∃ x, s = .d x ∧ SeqAt.shaped x = true ∧ EV c tb ρ M1 (fun s M2 => ∃ y, s = .d y ∧ SeqAt.shaped y = true ∧ Q (.d (.bool (!PyData.eqv x y))) M2) X) X) : EV c (tOp (rNeD c.K) ta tb) ρ M Q X :=
  ev_op (EV.imp ha (fun s M1 ⟨x, e, hx, h⟩ => by
    subst e
    exact EV.imp h (fun s M2 ⟨y, e, hy, q⟩ => by subst e; exact fun S As H v w hv hw m R k => ⟨x, y, hv.dp, hw.dp, hx, hy, k.here q m (.bl _)⟩) fun _ _ z => z) fun _ _ z => z)
theorem ev_ixL (ha : EV c ta ρ M (fun s M1 => ∃ ds, s = .d (.list ds) ∧ EV c tb ρ M1 (fun s M2 => ∃ (i : Int) (d : PyData), s = .d (.int i) ∧ atD ds i = some d ∧ Q (.d d) M2) X) X) : EV c (tOp (rIxL c.K) ta tb) ρ M Q X :=
  ev_op (EV.imp ha (fun s M1 ⟨ds, e, h⟩ => by
    subst e
    refine EV.imp h (fun s M2 ⟨i, d, e, hi, q⟩ => ?_) fun _ _ z => z
    subst e
    refine fun S As H v w hv hw m R k => ?_
    obtain ⟨a, vs, rfl, h1, h2⟩ := dp_lst hv
    cases hw
    obtain ⟨u, e, r⟩ := atD_v h2 hi
    exact ⟨a, vs, i, u, rfl, rfl, hmk_sqL h1, e, k.here q m r⟩) fun _ _ z => z)
theorem ev_ixT (ha : EV c ta ρ M (fun s M1 => ∃ ds, s = .d (.tuple ds) ∧ EV c tb ρ M1 (fun s M2 => ∃ (i : Int) (d : PyData), s = .d (.int i) ∧ atD ds i = some d ∧ Q (.d d) M2) X) X) : EV c (tOp (rIxT c.K) ta tb) ρ M Q X :=
  ev_op (EV.imp ha (fun s M1 ⟨ds, e, h⟩ => by
    subst e
    refine EV.imp h (fun s M2 ⟨i, d, e, hi, q⟩ => ?_) fun _ _ z => z
    subst e
    refine fun S As H v w hv hw m R k => ?_
    obtain ⟨a, vs, rfl, h1, h2⟩ := dp_tup hv
    cases hw
    obtain ⟨u, e, r⟩ := atD_v h2 hi
    exact ⟨a, vs, i, u, rfl, rfl, hmk_sqT h1, e, k.here q m r⟩) fun _ _ z => z)
theorem et_test {Q : QB} (h : EV c te ρ M (fun s M' => ∃ b, s = .d (.bool b) ∧ Q b M') X) : ET c (tTest te) ρ M Q X := fun S As σ H e m R k kx =>
  h S As σ H e m _ (fun s M' As' v H' ⟨b, e1, q⟩ g m' r => by
    subst e1
    cases r
    exact ⟨b, rfl, k b _ As' H' q g m'⟩) kx
theorem et_B {Q : QB} (h : EV c te ρ M (fun s M' => ∃ b, s = .d (.bool b) ∧ Q b M') X) : ET c (tB te) ρ M Q X := fun S As σ H e m R k kx =>
  h S As σ H e m _ (fun s M' As' v H' ⟨b, e1, q⟩ g m' r => by
    subst e1
    cases r
    exact ⟨b, rfl, k b _ As' H' q g m'⟩) kx
theorem et_not {Q : QB} (h : ET c tt ρ M (fun b M' => Q (!b) M') X) : ET c (tNot tt) ρ M Q X := fun S As σ H e m R k kx =>
  h S As σ H e m _ (fun b M' As' H' q g m' => k (!b) _ As' H' q g m') kx
theorem et_and {Q : QB} (h : ET c tt ρ M (fun b M' => (b = true → ET c tu ρ M' Q X) ∧ (b = false → Q false M')) X) : ET c (tAnd tt tu) ρ M Q X := fun S As σ H e m R k kx =>
  h S As σ H e m _ (fun s M' As' H' q g m' => by
    cases s with
    | true =>
      show tu σ H' R
      exact q.1 rfl S As' σ H' (e.go g) m' R (k.go g) (kx.go g)
    | false =>
      show R false H'
      exact k false _ As' H' (q.2 rfl) g m') kx
theorem et_or {Q : QB} (h : ET c tt ρ M (fun b M' => (b = true → Q true M') ∧ (b = false → ET c tu ρ M' Q X)) X) : ET c (tOr tt tu) ρ M Q X := fun S As σ H e m R k kx =>
  h S As σ H e m _ (fun s M' As' H' q g m' => by
    cases s with
    | true =>
      show R true H'
      exact k true _ As' H' (q.1 rfl) g m'
    | false =>
      show tu σ H' R
      exact q.2 rfl S As' σ H' (e.go g) m' R (k.go g) (kx.go g)) kx
theorem ev_andV (h : EV c ta ρ M (fun s M' => ∃ b, s = .d (.bool b) ∧ (b = true → EV c tb ρ M' Q X) ∧ (b = false → Q (.d (.bool false)) M')) X) : EV c (tAndV ta tb) ρ M Q X := fun S As σ H e m R k kx =>
  h S As σ H e m _ (fun s M' As' v H' ⟨b, e1, q⟩ g m' r => by
    subst e1
    cases r
    refine ⟨b, rfl, ?_⟩
    cases b with
    | true =>
      show tb σ H' R
      exact q.1 rfl S As' σ H' (e.go g) m' R (k.go g) (kx.go g)
    | false =>
      show R (.bl false) H'
      exact k (.d (.bool false)) _ As' _ H' (q.2 rfl) g m' (.bl _)) kx
end
end DL

set_option Elab.async false
set_option linter.all false
set_option autoImplicit false
set_option maxRecDepth 100000
set_option maxHeartbeats 2000000
/-! DL: rules with the written part named, for the blocks of comprehensions. -/
namespace DL
open PySem PySem.Spec PyProof.Rows L2 PySem.W
section
variable {X : Cx} {K : PySem.W.Frag}
theorem kIxL (h : X.K = K) : IxR X (rIxL K) := h ▸ ix_list
theorem kIxT (h : X.K = K) : IxR X (rIxT K) := h ▸ ix_tup
theorem kSlL (h : X.K = K) : L2.SlR X (rSlL K) := h ▸ sl_list
theorem kSlA (h : X.K = K) : L2.SlR X (rSlA K) := h ▸ sl_tupA
theorem kEq (h : X.K = K) (hu : X.A.units + 64 < cLine) : OpR X (compareOp .Eq) (rEqD K) := h ▸ op_eqD hu
theorem kNe (h : X.K = K) (hu : X.A.units + 64 < cLine) : OpR X (compareOp .NotEq) (rNeD K) := h ▸ op_neD hu
theorem kIn (h : X.K = K) : OpR X (compareOp .In) (rIn K false) := h ▸ op_in_seq
theorem kNotIn (h : X.K = K) : OpR X (compareOp .NotIn) (rIn K true) := h ▸ op_notIn_seq
theorem kCatA (h : X.K = K) : OpR X (binaryOp .Add) (rCatA K) := h ▸ op_catA
theorem kRepT (h : X.K = K) : OpR X (binaryOp .Mult) (rRepT K) := h ▸ op_repT
theorem kLen (h : X.K = K) : CallR X (.builtin "len") (fun xs H Q => ∃ p ys, xs = [.ref p] ∧ (SqL K H p ys ∨ SqT K H p ys) ∧ Q (.int ys.length) H) := h ▸ call_len_seq
theorem kAll (h : X.K = K) (hc : X.calm = true) : CallR X (.builtin "all") (rAll K) := h ▸ cr_all hc
theorem kAny (h : X.K = K) (hc : X.calm = true) : CallR X (.builtin "any") (rAny K) := h ▸ cr_any hc
theorem kSum (h : X.K = K) (hc : X.calm = true) : CallR X (.builtin "sum") (rSumA K) := h ▸ cr_sumA hc
theorem kMin (h : X.K = K) (hc : X.calm = true) : CallR X (.builtin "min") (rMin K) := h ▸ cr_min hc
theorem kMax (h : X.K = K) (hc : X.calm = true) : CallR X (.builtin "max") (rMax K) := h ▸ cr_max hc
theorem kSrt (h : X.K = K) (hu : X.A.units + 64 < cLine) : CallR X (.builtin "sorted") (rSrtD K) := h ▸ call_srtD hu
theorem kIsi (h : X.K = K) : CallR X (.builtin "isinstance") (rIsi K) := h ▸ call_isi
theorem kList (h : X.K = K) : CallR X (.type "list") (fun xs H Q => ∃ p ys, xs = [.ref p] ∧ (SqL K H p ys ∨ SqT K H p ys) ∧ ∀ l, H l = none → Q (.ref l) (upd H l (.lst ys))) := h ▸ call_list_of
theorem kTuple (h : X.K = K) : CallR X (.type "tuple") (fun xs H Q => ∃ p ys, xs = [.ref p] ∧ ((SqL K H p ys ∧ ∀ l, H l = none → Q (.ref l) (upd H l (.tup ys))) ∨ (SqT K H p ys ∧ Q (.ref p) H))) := h ▸ call_tuple_of
theorem kPiL {tg l : Expr} {tl : TE} (h : X.K = K) (hl : PE X l tl) : PI X tg l (iList K tl) := h ▸ pi_list hl
theorem kPiT {tg l : Expr} {tl : TE} (h : X.K = K) (hl : PE X l tl) : PI X tg l (iTup K tl) := h ▸ pi_tup hl
end
section
variable {c : Cn} {S : Addr → Bool} {As As1 As2 : Ads} {H H1 : Hp} {M M1 M2 : List MO} {ρ : List Sl} {σ : L2.St} {P P' : Po} {ta tb te : TE} {tt tu : TT} {t u : TS} {s : Sl} {v w : V} {Q Q' : QS} {X : XP} {R : VK}
/-- a walk over an own list, however it is come by -/
theorem it_ownE {j n : Nat} {ds : List PyData} {Q : List (List PyData) → List MO → Prop} (h : EV c te ρ M (fun s M1 => s = .m n ∧ M1[n]? = some (.lst ds) ∧ Q (ones ds) M1) X) : IT c (iList c.K te) (gName j) ρ M [j] (fun M => M[n]? = some (.lst ds)) Q X := fun S As σ H e m R k kx =>
  h S As σ H e m _ (fun s M1 As1 v H1 ⟨es, hn, q⟩ g1 m1 r => by
    subst es
    obtain ⟨a, ea, rfl⟩ := r
    obtain ⟨b, eb, _, vs, eH, _⟩ := m1.ex hn
    rw [ea] at eb; cases eb
    exact ⟨a, rfl, ⟨vs, .inl (.inl eH)⟩, k _ M1 As1 _ H1 q g1 m1 (walk_own ea)⟩) kx
def RdS (s : Sl) (M : List MO) (d : PyData) : Prop := s = .d d ∨ ∃ j ds, s = .m j ∧ M[j]? = some (.lst ds) ∧ d = .list ds
theorem ev_neR (ha : EV c ta ρ M (fun s M1 => EV c tb ρ M1 (fun s2 M2 => ∃ x y, RdS s M2 x ∧ RdS s2 M2 y ∧ SeqAt.shaped x = true ∧ SeqAt.shaped y = true ∧ Q (.d (.bool (!PyData.eqv x y))) M2) X) X) : EV c (tOp (rNeD c.K) ta tb) ρ M Q X :=
  ev_op (EV.imp ha (fun s M1 h => EV.imp h (fun s2 M2 ⟨x, y, hx, hy, sx, sy, q⟩ => fun S As H v w hv hw m R k => ⟨x, y, rd_dp m hx hv, rd_dp m hy hw, sx, sy, k.here q m (.bl _)⟩) fun _ _ z => z) fun _ _ z => z)
theorem ev_eqR (ha : EV c ta ρ M (fun s M1 => EV c tb ρ M1 (fun s2 M2 => ∃ x y, RdS s M2 x ∧ RdS s2 M2 y ∧ SeqAt.shaped x = true ∧ SeqAt.shaped y = true ∧ Q (.d (.bool (PyData.eqv x y))) M2) X) X) : EV c (tOp (rEqD c.K) ta tb) ρ M Q X :=
  ev_op (EV.imp ha (fun s M1 h => EV.imp h (fun s2 M2 ⟨x, y, hx, hy, sx, sy, q⟩ => fun S As H v w hv hw m R k => ⟨x, y, rd_dp m hx hv, rd_dp m hy hw, sx, sy, k.here q m (.bl _)⟩) fun _ _ z => z) fun _ _ z => z)
end
section
variable {c : Cn} {M : List MO} {ρ : List Sl} {P : Po}
theorem ex_try1 {Fc : Value} {i : Nat} {sp : Sp} {ta : TA} {ts : Addr → Value → Option Addr → TS} {Wout : WX} {Xb : XPs}
    (hb : ∀ W : WX, EX ⟨c.K, c.T, fun σ => WE W σ⟩ (tDrop (tCallS sp (WE W) ta)) ρ M { P with xp := Xb })
    (hs : ∀ C ρ' M', Xb C ρ' M' → PySem.W.exmOne c.K (.ref C) Fc = some true ∧ ∀ a, EX c (ts a (.ref C) none) (ρ'.set i (.v (.ref a))) M' { P with nx := fun ρ2 M2 => P.nx (ρ2.set i .un) M2, bk := fun ρ2 M2 => P.bk (ρ2.set i .un) M2, ct := fun ρ2 M2 => P.ct (ρ2.set i .un) M2 }) :
    EX c (fun D σ H => tDrop (tCallS sp (WE (wAs c.K Fc i ts Wout D)) ta) D σ H) ρ M P := ex_try (tb := fun W => tDrop (tCallS sp (WE W) ta)) hb hs
end
end DL

set_option Elab.async false
set_option linter.all false
set_option autoImplicit false
set_option maxRecDepth 100000
set_option maxHeartbeats 2000000
/-! DL: the end. -/
namespace DL
open PySem PySem.Spec PyProof.Rows L2 PySem.W
theorem hmk_none {H : Hp} : hmk (fun _ => false) [] H = H := by
  funext a
  unfold hmk
  simp
theorem law_sp {K : PySem.W.Frag} {W : Wd} {n : Nat} (hW : ∀ ns : List Int, ns.length ≤ n → ∀ Q : QS, (∀ M', Q (.d (.bool true)) M') → W [.d (.list (ns.map .int))] [] Q X0) {H : Hp} {a : Addr} {ns : List Int} (hl : ns.length ≤ n) (hS : SqL K H a (ns.map V.int)) :
    spW K [] W [.ref a] H (fun v _ => v = .bl true) fun _ _ _ => False := by
  refine ⟨fun _ => false, [], [.d (.list (ns.map .int))], [], fun s _ => s = .d (.bool true), X0, .cons ?_ .nil, ⟨rfl, List.nodup_nil, fun _ h => absurd h (by simp), fun _ h => (nomatch h), fun i _ _ h => (by simp at h), fun _ h => absurd h (by simp), fun _ h => nomatch h⟩, hW ns hl _ fun _ => rfl, fun s M' e As' v H' g m r => ?_, fun _ _ e => e.elim⟩
  · show Dp K (hmk (fun _ => false) [] H) _ _
    rw [hmk_none]
    exact .lst hS (dp_ints_of ns)
  · subst e
    cases r
    rfl
/-- the facts told beside -/
theorem ex_at {l : List Bool} (h : l.all id = true) (i : Nat) {b : Bool} (e : l[i]? = some b := by rfl) : b = true := List.all_eq_true.mp h b (List.mem_of_getElem? e)
def excCs (K : PySem.W.Frag) (D : Addr) : List Bool := [
  decide (PySem.W.findIn K (.ref D) "__getattribute__" = some (some (.builtin "BaseException.__getattribute__"))),
  decide (PySem.W.findIn K (.ref D) "__getattr__" = some none),
  decide (PySem.W.subIn K (.ref D) (.type "BaseException") = some true),
  PySem.W.hasDictIn K D,
  decide (PySem.W.findIn K (.ref D) "__class__" = some (some (.builtin "object.__class__"))),
  decide (PySem.W.specialIn K (.builtin "object.__class__") "__get__" = some (some (.builtin "getset_descriptor.__get__"))),
  decide (PySem.W.takesIn K (.builtin "object.__class__") = some true),
  decide (PySem.W.mroIn K D (.type "object") = some true)]
theorem excC_of {K : PySem.W.Frag} {D : Addr} (h : (excCs K D).all id = true) : ExcC K D :=
  ⟨of_decide_eq_true (ex_at h 0), of_decide_eq_true (ex_at h 1), of_decide_eq_true (ex_at h 2), ex_at h 3, of_decide_eq_true (ex_at h 4), of_decide_eq_true (ex_at h 5), of_decide_eq_true (ex_at h 6), of_decide_eq_true (ex_at h 7)⟩
end DL

set_option Elab.async false
set_option linter.all false
set_option autoImplicit false
set_option maxRecDepth 100000
set_option maxHeartbeats 2000000
/-! DL: repetition, membership of ints. -/
namespace DL
open PySem PySem.Spec PyProof.Rows L2 PySem.W
section
variable {c : Cn} {S : Addr → Bool} {As As1 As2 : Ads} {H H1 : Hp} {M M1 M2 : List MO} {ρ : List Sl} {σ : L2.St} {P P' : Po} {ta tb te : TE} {tt tu : TT} {t u : TS} {s : Sl} {v w : V} {Q Q' : QS} {X : XP} {R : VK}
theorem dpAll_rep {K : PySem.W.Frag} {H : Hp} {vs : List V} {ds : List PyData} (h : DpAll K H vs ds) : ∀ n : Nat, DpAll K H (List.replicate n vs).flatten (List.replicate n ds).flatten
  | 0 => .nil
  | n + 1 => by
    rw [List.replicate_succ, List.replicate_succ, List.flatten_cons, List.flatten_cons]
    exact dpAll_append h (dpAll_rep h n)
/-- [..] * n -/
theorem ev_rep {t : TA} {ds : List PyData} {n : Int} (ha : Da c t ρ M ds) (hb : Dv c tb ρ (M ++ [.lst ds]) (.int n)) (h0 : n ≤ 100000) (hz : ds.length * n.toNat ≤ 100000) (h1 : -100000 ≤ n) (hl : ds.length ≤ 1000 := by exact Nat.le_of_ble_eq_true rfl)
    (q : Q (.m (M.length + 1)) (M ++ [.lst ds] ++ [.lst (List.replicate n.toNat ds).flatten])) : EV c (tOp rRep (tLst t) tb) ρ M Q X :=
  ev_op (ev_dl (dl_lst ha hl) (ev_dv hb fun S As H v w hv hw m R k => by
    obtain ⟨a, ea, rfl⟩ := hv
    obtain ⟨a', ea', _, vs, e1, r1⟩ := m.ex (i := M.length) (mo := .lst ds) (by simp)
    rw [ea] at ea'; cases ea'
    cases hw
    have e := dpAll_length r1
    have hlen : (List.replicate n.toNat ds).flatten.length = ds.length * n.toNat := by rw [List.length_flatten]; simp [Nat.mul_comm]
    refine ⟨a, n, vs, rfl, rfl, e1, by omega, by omega, by rw [e]; exact Nat.le_trans hz (by decide), fun p hp => own_new m hp (by rw [hlen]; exact Nat.le_trans hz (by decide)) (dpAll_rep r1 _) k ?_⟩
    rw [List.length_append]
    exact q))
/-- [d] * n, data from now on -/
theorem dv_rep1 {d : PyData} {n : Int} (ha : Dv c te ρ M d) (hb : Dv c tb ρ (M ++ [.lst [d]]) (.int n)) (h0 : n ≤ 100000) (h1 : -100000 ≤ n) : EV c (tOp rRep (tLst (tCons te tNil)) tb) ρ M (fun s M' => s = .m (M.length + 1) ∧ M' = M ++ [.lst [d]] ++ [.lst (List.replicate n.toNat d)]) X :=
  ev_rep (da_cons ha da_nil) hb h0 (by simp; omega) h1 (q := ⟨rfl, by
    congr 2
    congr 1
    induction n.toNat with
    | zero => rfl
    | succ k ih => rw [List.replicate_succ, List.replicate_succ, List.flatten_cons, ih]; rfl⟩)
theorem inV_ints (i : Int) : ∀ ns : List Int, inV (.int i) (ns.map V.int) = decide (i ∈ ns)
  | [] => by simp [inV]
  | n :: ns => by
    have ih := inV_ints i ns
    show ((n == i) || inV (.int i) (ns.map V.int)) = _
    rw [ih]
    by_cases h : i = n
    · subst h; simp
    · have h' : (n == i) = false := by simp [Ne.symm h]
      rw [h', Bool.false_or]
      simp [h]
theorem dv_inI {x : PyData} {i : Int} {ns : List Int} (ha : Dv c ta ρ M (.int i)) (hb : Dv c tb ρ M x) (e : seqD x = some (ns.map .int)) : Dv c (tOp (rIn c.K false) ta tb) ρ M (.bool (decide (i ∈ ns))) :=
  dv_op ha hb fun S As H v w hv hw m R k => by
    cases hv
    obtain ⟨a, ws, rfl, h1, h2⟩ := dp_seq hw.dp e
    have := dp_ints h2
    subst this
    refine ⟨a, _, rfl, h1, rfl, by rw [List.all_map]; simp [flatV, Function.comp_def], ?_⟩
    show R (.bl (inV (.int i) (ns.map V.int))) H
    rw [inV_ints]
    exact k.here ⟨rfl, rfl⟩ m (.bl _)
theorem dv_notInI {x : PyData} {i : Int} {ns : List Int} (ha : Dv c ta ρ M (.int i)) (hb : Dv c tb ρ M x) (e : seqD x = some (ns.map .int)) : Dv c (tOp (rIn c.K true) ta tb) ρ M (.bool (!decide (i ∈ ns))) :=
  dv_op ha hb fun S As H v w hv hw m R k => by
    cases hv
    obtain ⟨a, ws, rfl, h1, h2⟩ := dp_seq hw.dp e
    have := dp_ints h2
    subst this
    refine ⟨a, _, rfl, h1, rfl, by rw [List.all_map]; simp [flatV, Function.comp_def], ?_⟩
    show R (.bl (!inV (.int i) (ns.map V.int))) H
    rw [inV_ints]
    exact k.here ⟨rfl, rfl⟩ m (.bl _)
end
end DL

set_option Elab.async false
set_option linter.all false
set_option autoImplicit false
set_option maxRecDepth 100000
set_option maxHeartbeats 2000000
/-! DL: enumerate over a tuple. -/
namespace PySem
theorem meets_enumerate_newT (l : Addr) (items : Array Value) (n : Nat) (dct : Option Addr) (sl : Array (Option Value)) :
    Meets (Builtin.«enumerate.__new__» ⟨[.type "enumerate", .ref l], []⟩) (fun _ R s => s.heap.get? l = some { cls := .type "tuple", dict := dct, data := .seq items n, slots := sl } ∧
      R (.ok (.ret (.ref (s.heap.push { cls := .type "tuple_iterator", data := .fields #[.ref l, .int 0 0] }).objs.size)))
        { s with heap := (s.heap.push { cls := .type "tuple_iterator", data := .fields #[.ref l, .int 0 0] }).push { cls := .type "enumerate", data := .fields #[.none, .bool false, .ref s.heap.objs.size, rawInt 0, .none, .none] } }) :=
  .of_wp fun prog w A R s h => by
    obtain ⟨hp, g, d, tk, os⟩ := s; obtain ⟨hl, h⟩ := h
    have hsub := sub_enumerate
    have hL : Heap.IsTuple (Shared.heap ⟨hp, g, d, tk, os⟩) l items := ⟨_, hl, rfl, n, rfl⟩
    wp_walk using wpAny_loadPart' hl
    refine wpAny_stack_any fun st => wpAny_pure ?_
    split
    · rename_i c _ _ _ _ _
      cases (c == Value.type "enumerate")
      · wp_walk using wpAny_loadPart' hl, wpAny_pyIter_tuple hL
        exact ⟨_, rfl, h⟩
      · wp_walk using wpAny_loadPart' hl, wpAny_pyIter_tuple hL
        exact ⟨_, rfl, h⟩
    · wp_walk using wpAny_loadPart' hl, wpAny_pyIter_tuple hL
      exact ⟨_, rfl, h⟩
section
variable {prog : Program} {w : World} {A : Around} {E : Value → Shared → Prop} {s : Shared}
theorem call_enumerate_tuple {l : Addr} {items : Array Value} {Q : Value → Shared → Prop} (hL : s.heap.IsTuple l items)
    (h : ∀ h', IsEnum h' (s.heap.objs.size + 1) s.heap.objs.size 0 .none → h'.IsTupleIter s.heap.objs.size l 0 → h'.objs.size = s.heap.objs.size + 2 →
      (∀ b o, s.heap.get? b = some o → h'.get? b = some o) → Q (.ref (s.heap.objs.size + 1)) { s with heap := h' }) :
    wpAny (model prog w) A (call (.type "enumerate") [.ref l]) Q E s := by
  obtain ⟨⟨c, dct, dt, sl⟩, hl, hc, n, hd⟩ := hL
  replace hc : c = .type "tuple" := hc
  replace hd : dt = .seq items n := hd
  subst hc hd
  refine callType_new F.called_enumerate (by decide) (F.typeCall_enumerate_1 _) (F.newCall_enumerate_1 _) (fun obj => F.args_object_init_2 obj _) F.entry_enumerate_new
    (meets_enumerate_newT l items n dct sl) ⟨hl, ?_⟩
  have hz : (s.heap.push { cls := .type "tuple_iterator", data := .fields #[.ref l, .int 0 0] }).objs.size = s.heap.objs.size + 1 := Heap.size_push ..
  show _ ∧ _
  rw [hz]
  have he : IsEnum ((s.heap.push { cls := .type "tuple_iterator", data := .fields #[.ref l, .int 0 0] }).push
      { cls := .type "enumerate", data := .fields #[.none, .bool false, .ref s.heap.objs.size, rawInt 0, .none, .none] }) (s.heap.objs.size + 1) s.heap.objs.size 0 .none := by
    have := Heap.get?_push_size (s.heap.push { cls := .type "tuple_iterator", data := .fields #[.ref l, .int 0 0] })
      (o := { cls := .type "enumerate", data := .fields #[.none, .bool false, .ref s.heap.objs.size, rawInt 0, .none, .none] }) rfl
    rw [hz] at this; exact this
  refine ⟨⟨_, he, rfl⟩, h _ he ⟨_, Heap.get?_push_of_some _ (Heap.get?_push_size _ rfl), rfl, rfl⟩ (by rw [Heap.size_push, hz]) fun b o x => Heap.get?_push_of_some _ (Heap.get?_push_of_some _ x)⟩
end
end PySem
namespace DL
open PySem PySem.Spec PyProof.Rows L2
/-- the tuple at a, each item in a new pair -/
def IteT (K : PySem.W.Frag) (a : Addr) : It :=
  ⟨fun i H => ∃ (xs : List V) (x : V), SqT K H a xs ∧ xs[i]? = some x, fun i H v H' => ∃ T x, v = .ref T ∧ H T = none ∧ H' = upd H T (.tup [.int (i : Nat), x]) ∧ ∀ xs, SqT K H a xs → xs[i]? = some x, fun i H => ∃ xs : List V, SqT K H a xs ∧ xs.length ≤ i⟩
theorem turn_enumT {P : Program} {w : World} {K : PySem.W.Frag} {elts : List Expr} {kk : Nat} {tpos : Pos} (a e it : Addr) :
    Turn P w K (.Tuple elts kk tpos) (IteT K a) [e, it] e (fun i h => (∃ old, IsEnum h e it ((i : Nat) : Int) old) ∧ h.IsTupleIter it a i ∧ e ≠ it) where
  mem := by simp
  obj := fun i h st b hb => by
    obtain ⟨⟨old, he⟩, ⟨o, ho, hc, hd⟩, _⟩ := st
    have e' : b = e ∨ b = it := by simpa using hb
    rcases e' with z | z
    · rw [z]; exact ⟨_, he, fun v q => nomatch q⟩
    · rw [z]; exact ⟨o, ho, fun v q => by rw [hd] at q; cases q⟩
  keep := fun i h h' st k => let ⟨⟨old, he⟩, hi, hne⟩ := st; ⟨⟨old, k e (by simp) _ he⟩, hi.at fun o q => k it (by simp) o q, hne⟩
  item := by
    intro X hP hw hK hc i pins s σ H E I hf st hg
    subst hP hw hK
    obtain ⟨⟨old, he⟩, hit, hne⟩ := st
    obtain ⟨xs, x, hq, hx⟩ := hg
    obtain ⟨its, rv, ⟨o, ho, hcl, n, hd⟩, hz⟩ := I.tuple hq
    obtain ⟨u, hu, ru⟩ := rv.get hx
    have hel : e < s.heap.objs.size := Heap.lt_size he
    have hil : it < s.heap.objs.size := by obtain ⟨_, q, _⟩ := hit; exact Heap.lt_size q
    have hT : s.heap.IsTuple a its.toArray := ⟨o, ho, hcl, n, hd⟩
    have hai : a ≠ it := fun z => by
      obtain ⟨o', ho', hc', _⟩ := hit
      rw [← z, ho] at ho'
      cases ho'
      rw [hcl] at hc'
      exact absurd (Value.type.inj hc') (by decide)
    have hae : e ≠ a := fun z => by
      have he' : s.heap.get? e = some _ := he
      rw [z, ho] at he'
      have := (congrArg Obj.cls (Option.some.inj he'))
      rw [hcl] at this
      exact absurd (Value.type.inj this) (by decide)
    have hi : i < its.toArray.size := by
      have := (List.getElem?_eq_some_iff.mp hu).1
      simpa using this
    refine wpAny_pyNext_enum_itemD (Draws.tuple (A := X.A.in1) (I.ok.hd hc) it a hai its.toArray) he ⟨hit, hT⟩ hi hne (by simp; exact ⟨hne, hae⟩) fun x' h' tk hP ho' hst' hTup hsz hk => ?_
    have ex : x' = u := by
      have hP' : its.toArray[i]? = some x' := hP
      rw [List.getElem?_toArray, hu] at hP'
      exact (Option.some.inj hP').symm
    subst ex
    refine ⟨_, rfl, wpAny_letOwnedTupleGo_enum (s := { s with heap := h', toks := tk + 1 }) ho' fun h'' he' sb => ?_⟩
    have hT2 : h''.get? s.heap.objs.size = some { cls := .type "tuple", data := .seq #[.int i tk, x'] } := (sb.2 _ (Nat.ne_of_gt hel)).trans hTup
    have new : ObjOk X.prog X.w (upd H s.heap.objs.size (.tup [.int (i : Nat), x])) h'' s.heap.objs.size (.tup [.int (i : Nat), x]) :=
      ⟨by show 2 ≤ sizeLine; decide, [.int i tk, x'], .cons ⟨_, rfl⟩ (.cons ru .nil), ⟨_, hT2, rfl, _, rfl⟩⟩
    have I1 : Inv X pins σ (upd H s.heap.objs.size (.tup [.int (i : Nat), x])) { s with heap := h'', toks := tk + 1 } :=
      I.turnedNew (ch := [e, it]) (fun b ob hb q => (sb.2 b (fun z => hb (by simp [z]))).trans (hk b ob (fun z => hb (by simp [z])) (fun z => hb (by simp [z])) q)) hf (Nat.le_refl _) new
    refine ⟨.ref s.heap.objs.size, _, I1, rfl, ⟨_, x, rfl, I.hok.fresh (Nat.le_refl _), rfl, fun ys hy => by rw [I.tuple_inj hy hq]; exact hx⟩, ⟨⟨x', ?_⟩, hst'.1.at fun o q => (sb.2 it (Ne.symm hne)).trans q, hne⟩, fun b hb => ?_⟩
    · have e1 : ((i + 1 : Nat) : Int) = (i : Int) + 1 := by omega
      rw [e1]; exact he'
    · have hb' : b < s.heap.objs.size := by
        have e' : b = e ∨ b = it := by simpa using hb
        rcases e' with z | z
        · rw [z]; exact hel
        · rw [z]; exact hil
      rw [upd_ne (Nat.ne_of_lt hb')]
      exact (hf b hb).1
  done := by
    intro X hP hw hK hc i pins s σ H E I hf st hg
    subst hP hw hK
    obtain ⟨⟨old, he⟩, hit, hne⟩ := st
    obtain ⟨xs, hq, hx⟩ := hg
    obtain ⟨its, rv, ⟨o, ho, hcl, n, hd⟩, hz⟩ := I.tuple hq
    obtain ⟨f0, f1, f2, f3, f4, f5⟩ := hf it (by simp)
    have hl := rv.length
    have hT : s.heap.IsTuple a its.toArray := ⟨o, ho, hcl, n, hd⟩
    have hT2 : s.TypeIs (.ref e) "enumerate" := ⟨_, he, rfl⟩
    unfold pyNext
    refine wpAny_bind (wpAny_attempt (wpAny_callSpecial?_slot (name := Str.ofString "__next__") hT2 F.slot_enumerate_next
      (wpAny_call_entry F.slot_enumerate_next hT2 F.entry_enumerate_next ?_ (F.args_enumerate_next_1 _))))
    show wpAny _ _ (field (.ref e) 2 >>= _) _ _ _
    refine wpAny_bind (wpAny_field he rfl (x := .ref it) rfl ?_)
    refine wpAny_bind (wpAny_nextOf_tuple_end (I.ok.hd hc) hit hT (by rw [Array.getElem?_eq_none]; simp; omega) fun h' x he' hx' => ?_)
    obtain ⟨o', ho', hc'⟩ := hx'
    refine wpAny_bind (wpAny_isInstance (T := "StopIteration") (b := true) ⟨o', ho', hc'⟩ isSubtype_stop ?_)
    exact wpAny_pure ⟨rfl, I.turned (t' := s.toks) (fun b o hb q => he' b o hb q) f0 f1 f3 f4 f5⟩
  self := fun A i s Q E st h => let ⟨⟨_, he⟩, _⟩ := st; wpAny_pyIter_enum he h
def iEnumT (K : PySem.W.Frag) (ta : TA) : TI := fun σ H R => ta σ H fun vs H1 => ∃ a xs, vs = [.ref a] ∧ SqT K H1 a xs ∧ R (IteT K a) H1
theorem pi_enumT {X : Cx} {e : Expr} {ta : TA} {p pos tpos : Pos} {elts : List Expr} {kk : Nat} (hg : Gl X "enumerate") (hm : X.mg "enumerate" = none) (ha : PA X [e] ta) (hs : starEach [e] X.env = [(false, eval e X.env)] := by rfl) :
    PI X (.Tuple elts kk tpos) (.Call (.Name "enumerate" p) [e] [] pos) (iEnumT X.K ta) := by
  refine ⟨fun pins s σ H R I h => ?_⟩
  refine Call_ (ld_blt I hg hm boot_enumerate (PyProof.Rows.callWith_type1 (thn (ha.run pos pins s σ H _ I h) fun us s1 ⟨vs, H1, I1, r1, q1⟩ => ?_) hs rfl))
  obtain ⟨a, xs, ex, hq, q⟩ := q1
  subst ex
  cases r1 with
  | cons r rr =>
    cases rr
    cases r
    obtain ⟨its, rv, ⟨o, ho, hcl, n, hd⟩, hz⟩ := I1.tuple hq
    refine call_enumerate_tuple ⟨o, ho, hcl, n, hd⟩ fun h' he hit hsz hk => wpAny_pyIter_enum he ?_
    have I2 : Inv X pins σ H1 { s1 with heap := h' } := I1.kept (t' := s1.toks) hk
    refine ⟨s1.heap.objs.size + 1, [s1.heap.objs.size + 1, s1.heap.objs.size], _, _, H1, rfl, I2, turn_enumT a (s1.heap.objs.size + 1) s1.heap.objs.size, ⟨⟨.none, he⟩, hit, Nat.succ_ne_self _⟩, fun b hb => ?_, q⟩
    have e' : b = s1.heap.objs.size + 1 ∨ b = s1.heap.objs.size := by simpa using hb
    have hle : s1.heap.objs.size ≤ b := by
      rcases e' with z | z
      · rw [z]; exact Nat.le_add_right _ _
      · rw [z]; exact Nat.le_refl _
    exact I1.fpOk hle (I1.hok.fresh hle)
theorem kPiEnT {X : Cx} {K : PySem.W.Frag} {e : Expr} {ta : TA} {p pos tpos : Pos} {elts : List Expr} {kk : Nat} (h : X.K = K) (hg : Gl X "enumerate") (hm : X.mg "enumerate" = none) (ha : PA X [e] ta) (hs : starEach [e] X.env = [(false, eval e X.env)] := by rfl) :
    PI X (.Tuple elts kk tpos) (.Call (.Name "enumerate" p) [e] [] pos) (iEnumT K ta) := h ▸ pi_enumT hg hm ha hs
section
variable {c : Cn} {S : Addr → Bool} {As As1 : Ads} {H H1 : Hp} {M M1 : List MO} {ρ : List Sl} {te : TE} {X : XP}
theorem walk_enumT {a : Addr} {vs : List V} {ds : List PyData} {j k : Nat} {kp : List MO → Prop} (h : SqT c.K (hmk S As H) a vs) (r : DpAll c.K (hmk S As H) vs ds) :
    Walk c (IteT c.K a) (gTup c.K 2 (gCons (gName j) (gCons (gName k) gNil))) S As H [j, k] (prs (rngD 0 ds.length) ds) kp := fun S2 As2 H2 M2 h1 g m _ => by
  have kk := later h1 g
  have hq := hmk_sqT (kk.sqT h)
  have hl := dpAll_length r
  refine ⟨⟨vs, hq, by rw [prs_len, rngD_len, hl, Nat.min_self]; exact Nat.le_refl _⟩, fun i es hi => ?_⟩
  obtain ⟨d1, d2, hd1, hd2, rfl⟩ := prs_get hi
  obtain ⟨hi, rfl⟩ := rngD_get hd1
  obtain ⟨x, hx, rx⟩ := dpAll_get r hd2
  refine ⟨⟨vs, x, hq, hx⟩, fun y H3 ⟨T, z, ey, nT, e3, hz⟩ σ2 Q q => ?_⟩
  subst ey; subst e3
  have : z = x := Option.some.inj ((hz vs hq).symm.trans hx)
  subst this
  rw [Int.zero_add] at q
  exact go_pair m nT (.int _) (dp_kp kk _ _ rx) q
theorem it_enumT {j k : Nat} {t : TA} {Q : List (List PyData) → List MO → Prop} (h : EA c t ρ M (fun ss M1 => ∃ ds, ss = [.d (.tuple ds)] ∧ Q (prs (rngD 0 ds.length) ds) M1) X) :
    IT c (iEnumT c.K t) (gTup c.K 2 (gCons (gName j) (gCons (gName k) gNil))) ρ M [j, k] kp0 Q X := fun S As σ H e m R kr kx =>
  h S As σ H e m _ (fun s M1 As1 vs H1 ⟨ds, es, q⟩ g1 m1 r => by
    subst es
    cases r with
    | cons r1 r2 =>
      cases r2
      obtain ⟨a, ws, rfl, h1, h2⟩ := dp_tup r1
      exact ⟨a, ws, rfl, hmk_sqT h1, kr _ M1 As1 _ H1 q g1 m1 (walk_enumT h1 h2)⟩) kx
theorem dit_enumT {j k : Nat} {ds : List PyData} {items : List (List PyData)} (h : Dv c te ρ M (.tuple ds)) (e : prs (rngD 0 ds.length) ds = items) :
    IT c (iEnumT c.K (tCons te tNil)) (gTup c.K 2 (gCons (gName j) (gCons (gName k) gNil))) ρ M [j, k] kp0 (fun it M1 => it = items ∧ M1 = M) X0 := it_enumT (ea_da (da_cons h da_nil) ⟨ds, rfl, e, rfl⟩)
end
end DL

set_option Elab.async false
set_option linter.all false
set_option autoImplicit false
set_option maxRecDepth 100000
set_option maxHeartbeats 2000000
/-! DL: xs += ys, rows taken apart, truth of lists. -/
namespace DL
open PySem PySem.Spec PyProof.Rows L2 PySem.W
theorem ip_ext {X : Cx} : PIp X .Add rExt2 := fun pins s σ H x y v u Q I r1 r2 h => iop_ext pins s σ H x y v u Q I r1 r2 h
section
variable {c : Cn} {S : Addr → Bool} {As As1 As2 : Ads} {H H1 : Hp} {M M1 M2 : List MO} {ρ : List Sl} {σ : L2.St} {P P' : Po} {ta tb te : TE} {tt tu : TT} {t u : TS} {s : Sl} {v w : V} {Q Q' : QS} {X : XP} {R : VK}
/-- xs += ys of own lists -/
theorem ex_ext {i j : Nat} (hx : ρ[i]? = some (.m j)) (h : EV c te ρ M (fun s M1 => ∃ j2 ds es, s = .m j2 ∧ M1[j]? = some (.lst ds) ∧ M1[j2]? = some (.lst es) ∧ ds.length + es.length ≤ 100000 ∧ P.nx ρ (M1.set j (.lst (ds ++ es)))) (fun C M' => P.xp C ρ M')) : EX c (tAug i te rExt2) ρ M P := fun S As σ H e m D k1 k2 k3 k4 k5 => by
  obtain ⟨v, e1, r⟩ := e.at_ i _ hx (fun z => nomatch z)
  refine ⟨v, e1, h S As σ H e m _ (fun s M1 As1 w H1 ⟨j2, ds, es, es', h1, h2, hz, q⟩ g m1 rw => ?_) (k5.at_ e)⟩
  subst es'
  obtain ⟨a, ea, rfl⟩ := r
  obtain ⟨b, eb, rfl⟩ := rw
  obtain ⟨a', ea', hl, vs, eH, rr⟩ := m1.ex h1
  rw [g.ix ea] at ea'; cases ea'
  obtain ⟨b', eb', hl2, ws, eH2, rr2⟩ := m1.ex h2
  rw [eb] at eb'; cases eb'
  have hl1 := dpAll_length rr
  have hl3 := dpAll_length rr2
  refine ⟨a, b, vs, ws, rfl, rfl, eH, eH2, by rw [hl1, hl3]; exact Nat.le_trans hz (by decide), ?_⟩
  have g2 := go_mut (o := .lst (vs ++ ws)) m1 (g.ix ea) eH rfl (fun φ z => nomatch z)
  have e2 := (e.go g).go g2
  have e3 : RE c.K S As1 (upd H1 a (.lst (vs ++ ws))) (σ.set i (some (.ref a))) ρ := by
    have := e2.set i (s := .m j) (v := .ref a) ⟨a, g.ix ea, rfl⟩
    have es : ρ.set i (.m j) = ρ := by
      apply List.ext_getElem?
      intro k
      by_cases hk : i = k
      · subst hk
        rw [List.getElem?_set_self (List.getElem?_eq_some_iff.mp hx).1, hx]
      · rw [List.getElem?_set_ne hk]
    rw [es] at this
    exact this
  exact k1 _ _ As1 _ _ q (g.trans g2) e3 (m1.mut (g.ix ea) eH rfl (fun φ z => nomatch z) ⟨by rw [List.length_append]; exact Nat.le_trans hz (by decide), _, upd_same, dpAll_kp g2.kpm _ _ (dpAll_append rr rr2)⟩)
/-- rows taken apart -/
def rowsD (rs : List (List PyData)) : List PyData := rs.map .tuple
theorem go_row {S2 : Addr → Bool} {x : V} {row : List PyData} {n : Nat} {js : List Nat} {σ2 : L2.St} {Q : L2.St → Hp → Prop} (m : RM c.K c.T S2 As H M) (r : Dp c.K (hmk S2 As H) x (.tuple row)) (hn : row.length = n) (hj : js.length = n)
    (q : ∀ vs, Go As H As H → RM c.K c.T S2 As H M → DpAll c.K (hmk S2 As H) vs row → vs.length = js.length → Q (setV σ2 js vs) H) : gTup c.K n (gN js) x σ2 H Q := by
  obtain ⟨a, vs, rfl, h1, h2⟩ := dp_tup r
  have hl := dpAll_length h2
  exact ⟨a, vs, rfl, hmk_sqT h1, by rw [hl, hn], gN_run (by rw [hl, hn, hj]) (q vs (.refl _ _) m h2 (by rw [hl, hn, hj]))⟩
theorem walk_lstR {a : Addr} {vs : List V} {rs : List (List PyData)} {js : List Nat} {n : Nat} {kp : List MO → Prop} (h : SqL c.K (hmk S As H) a vs) (r : DpAll c.K (hmk S As H) vs (rowsD rs)) (hn : ∀ row ∈ rs, row.length = n) (hj : js.length = n) : Walk c (Itl c.K a) (gTup c.K n (gN js)) S As H js rs kp := fun S2 As2 H2 M2 h1 g m _ => by
  have kk := later h1 g
  have hq := hmk_sqL (kk.sqL h)
  have hl := dpAll_length r
  unfold rowsD at hl
  rw [List.length_map] at hl
  refine ⟨⟨vs, hq, by rw [hl]; exact Nat.le_refl _⟩, fun i row hi => ?_⟩
  obtain ⟨x, hx, rx⟩ := dpAll_get (i := i) (d := .tuple row) r (by unfold rowsD; rw [List.getElem?_map, hi]; rfl)
  refine ⟨⟨vs, x, hq, hx⟩, fun y H3 ⟨e3, ey⟩ σ2 Q q => ?_⟩
  subst e3
  have : y = x := Option.some.inj ((ey vs hq).symm.trans hx)
  subst this
  exact go_row m (dp_kp kk _ _ rx) (hn row (List.mem_of_getElem? hi)) hj q
theorem walk_tupR {a : Addr} {vs : List V} {rs : List (List PyData)} {js : List Nat} {n : Nat} {kp : List MO → Prop} (h : SqT c.K (hmk S As H) a vs) (r : DpAll c.K (hmk S As H) vs (rowsD rs)) (hn : ∀ row ∈ rs, row.length = n) (hj : js.length = n) : Walk c (Itt c.K a) (gTup c.K n (gN js)) S As H js rs kp := fun S2 As2 H2 M2 h1 g m _ => by
  have kk := later h1 g
  have hq := hmk_sqT (kk.sqT h)
  have hl := dpAll_length r
  unfold rowsD at hl
  rw [List.length_map] at hl
  refine ⟨⟨vs, hq, by rw [hl]; exact Nat.le_refl _⟩, fun i row hi => ?_⟩
  obtain ⟨x, hx, rx⟩ := dpAll_get (i := i) (d := .tuple row) r (by unfold rowsD; rw [List.getElem?_map, hi]; rfl)
  refine ⟨⟨vs, x, hq, hx⟩, fun y H3 ⟨e3, ey⟩ σ2 Q q => ?_⟩
  subst e3
  have : y = x := Option.some.inj ((ey vs hq).symm.trans hx)
  subst this
  exact go_row m (dp_kp kk _ _ rx) (hn row (List.mem_of_getElem? hi)) hj q
theorem it_lstR {js : List Nat} {n : Nat} {Q : List (List PyData) → List MO → Prop} (h : EV c te ρ M (fun s M1 => ∃ rs, s = .d (.list (rowsD rs)) ∧ (∀ row ∈ rs, row.length = n) ∧ Q rs M1) X) (hj : js.length = n) : IT c (iList c.K te) (gTup c.K n (gN js)) ρ M js kp0 Q X := fun S As σ H e m R k kx =>
  h S As σ H e m _ (fun s M1 As1 v H1 ⟨rs, es, hn, q⟩ g1 m1 r => by
    subst es
    obtain ⟨a, vs, rfl, h1, h2⟩ := dp_lst r
    exact ⟨a, rfl, ⟨vs, hmk_sqL h1⟩, k _ M1 As1 _ H1 q g1 m1 (walk_lstR h1 h2 hn hj)⟩) kx
theorem it_tupR {js : List Nat} {n : Nat} {Q : List (List PyData) → List MO → Prop} (h : EV c te ρ M (fun s M1 => ∃ rs, s = .d (.tuple (rowsD rs)) ∧ (∀ row ∈ rs, row.length = n) ∧ Q rs M1) X) (hj : js.length = n) : IT c (iTup c.K te) (gTup c.K n (gN js)) ρ M js kp0 Q X := fun S As σ H e m R k kx =>
  h S As σ H e m _ (fun s M1 As1 v H1 ⟨rs, es, hn, q⟩ g1 m1 r => by
    subst es
    obtain ⟨a, vs, rfl, h1, h2⟩ := dp_tup r
    exact ⟨a, rfl, ⟨vs, hmk_sqT h1⟩, k _ M1 As1 _ H1 q g1 m1 (walk_tupR h1 h2 hn hj)⟩) kx
/-- [f a for .. in own or data, ..]: the list handed on by its reading -/
theorem dl_sortedM {n j : Nat} {ds : List PyData} (hx : ρ[n]? = some (.m j)) (hj : M[j]? = some (.lst ds)) (h1 : AllAlike ds) (h2 : Sortable ds ∨ ∀ d ∈ ds, ∃ xs, d = .tuple xs) (h3 : ∀ d ∈ ds, d.depth ≤ 50) : Dl c (tCB (rSrtD c.K) (tCons (tVar n) tNil)) ρ M (ds.mergeSort (dataLe false id)) := ev_sortedM hx hj h1 h2 h3 ⟨rfl, rfl⟩

theorem dt_truth {d : PyData} {ds : List PyData} (h : Dv c te ρ M d) (e : seqD d = some ds) : Dt c (fun σ H Q => te σ H fun x H' => ∃ k, TruV c.K x H' k ∧ Q k H') ρ M (!ds.isEmpty) := fun S As σ H e1 m R k kx =>
  h S As σ H e1 m _ (fun s M' As' v H' ⟨es, e2⟩ g m' r => by
    subst es; subst e2
    have r' : Dp c.K (hmk S As' H') v d := r
    obtain ⟨a, vs, rfl, h1, h2⟩ := dp_seq r' e
    have hl := dpAll_length h2
    have e3 : (!vs.isEmpty) = !ds.isEmpty := by cases vs <;> cases ds <;> first | rfl | cases hl
    refine ⟨!ds.isEmpty, ?_, k _ _ As' H' ⟨rfl, rfl⟩ g m'⟩
    rcases h1 with h1 | h1
    · exact .inl ⟨vs, hmk_sqL h1, e3.symm⟩
    · exact .inr (.inl ⟨vs, hmk_sqT h1, e3.symm⟩)) KX.none
theorem dt_truthM {n j : Nat} {ds : List PyData} (hx : ρ[n]? = some (.m j)) (hj : M[j]? = some (.lst ds)) : Dt c (fun σ H Q => tVar n σ H fun x H' => ∃ k, TruV c.K x H' k ∧ Q k H') ρ M (!ds.isEmpty) := fun S As σ H e m R k kx => by
  obtain ⟨v, e1, r⟩ := e.at_ n _ hx (fun z => nomatch z)
  obtain ⟨a, ea, rfl⟩ := r
  obtain ⟨b, eb, _, vs, eH, rr⟩ := m.ex hj
  rw [ea] at eb; cases eb
  have hl := dpAll_length rr
  have e3 : (!vs.isEmpty) = !ds.isEmpty := by cases vs <;> cases ds <;> first | rfl | cases hl
  exact ⟨.ref a, e1, !ds.isEmpty, .inl ⟨vs, .inl (.inl eH), e3.symm⟩, k _ _ As H ⟨rfl, rfl⟩ (.refl _ _) m⟩
theorem dt_truthI {i : Int} (h : Dv c te ρ M (.int i)) : Dt c (fun σ H Q => te σ H fun x H' => ∃ k, TruV c.K x H' k ∧ Q k H') ρ M (i != 0) := fun S As σ H e1 m R k kx =>
  h S As σ H e1 m _ (fun s M' As' v H' ⟨es, e2⟩ g m' r => by
    subst es; subst e2
    cases r
    exact ⟨_, rfl, k _ _ As' H' ⟨rfl, rfl⟩ g m'⟩) KX.none
end
section
variable {X : Cx} {K : PySem.W.Frag}
theorem kPgT {es : List Expr} {k : Nat} {t : TGs} {n : Nat} {pos : Pos} (hK : X.K = K) (hc : X.calm = true) (h : PGs X es t)
    (hn : (assignEach es X.env).length = n := by rfl) (hst : (assignEach es X.env).findIdx? (·.1) = none := by rfl) : PG X (.Tuple es k pos) (gTup K n t) := hK ▸ pg_tup hc h hn hst
theorem kTruth {a : Expr} {ta : TE} (hK : X.K = K) (ha : PE X a ta) (he : ∀ whole, isTrue a X.env whole = (do let v ← whole; standAt a.pos; holding [v] (truthy v))) :
    PT X a (fun σ H Q => ta σ H fun x H' => ∃ k, TruV K x H' k ∧ Q k H') := hK ▸ pt_truth ha he
end
end DL

set_option Elab.async false
set_option linter.all false
set_option autoImplicit false
set_option maxRecDepth 100000
set_option maxHeartbeats 2000000
/-! DL: dicts whose keys are tuples of indices, all values True. -/
namespace DL
open PySem PySem.Spec PyProof.Rows L2 PySem.W
def tO (o : List Nat) : PyData := .tuple (o.map natD)
abbrev kO (o : List Nat) : List Key := o.map fun i : Nat => Sum.inl (i : Int)
def tupV (o : List Nat) : List V := o.map fun i : Nat => V.int (i : Int)
theorem kO_V (o : List Nat) : (kO o).map kV = tupV o := by unfold kO tupV; rw [List.map_map]; rfl
theorem kO_inj {a b : List Nat} (h : kO a = kO b) : a = b := by
  have : (kO a).map (fun k : Key => match k with | .inl i => i.toNat | _ => 0) = (kO b).map (fun k : Key => match k with | .inl i => i.toNat | _ => 0) := by rw [h]
  unfold kO at this
  rw [List.map_map, List.map_map] at this
  simpa [Function.comp_def] using this
def entT (o : List Nat) : List Key × V := (kO o, .bl true)
def tD (os : List (List Nat)) : HO := .dT (os.map entT)
def putO (os : List (List Nat)) (o : List Nat) : List (List Nat) := if o ∈ os then os else os ++ [o]
theorem any_tD (os : List (List Nat)) (o : List Nat) : ((os.map entT).any fun kv => decide (kv.1 = kO o)) = decide (o ∈ os) := by
  induction os with
  | nil => simp
  | cons a os ih =>
    rw [List.map_cons, List.any_cons, ih]
    by_cases h : o = a
    · subst h; simp [entT]
    · have h' : ¬ (entT a).1 = kO o := fun z => h (kO_inj z).symm
      simp [h, h']
theorem putK_tD (os : List (List Nat)) (o : List Nat) : putK (os.map entT) (kO o) (.bl true) = (putO os o).map entT := by
  unfold putK putO
  rw [any_tD]
  by_cases h : o ∈ os
  · rw [if_pos (by simp [h]), if_pos h, List.map_map]
    apply List.map_congr_left
    intro a _
    show (if (entT a).1 = kO o then ((entT a).1, V.bl true) else entT a) = entT a
    split <;> rfl
  · rw [if_neg (by simp [h]), if_neg h, List.map_append]; rfl
theorem valV_tD (os : List (List Nat)) (o : List Nat) : (valV (os.map entT) (kO o)).isSome = decide (o ∈ os) := by
  unfold valV
  rw [Option.isSome_map, ← any_tD, Bool.eq_iff_iff, List.find?_isSome, List.any_eq_true]
theorem tupV_dp {K : PySem.W.Frag} {H : Hp} : ∀ o : List Nat, DpAll K H (tupV o) (o.map natD)
  | [] => .nil
  | i :: o => .cons (.int _) (tupV_dp o)
theorem dp_tupV {K : PySem.W.Frag} {H : Hp} : ∀ {o : List Nat} {vs : List V}, DpAll K H vs (o.map natD) → vs = tupV o
  | [], vs, h => by cases h; rfl
  | i :: o, vs, h => by
    have h' : DpAll K H vs (natD i :: o.map natD) := h
    cases h' with
    | cons h1 h2 =>
      cases h1
      rw [dp_tupV h2]; rfl
theorem alike_tO (os : List (List Nat)) : AllAlike (os.map tO) := AllAlike.of fun a b => by
  unfold tO
  have e : ∀ o : List Nat, o.map natD = (o.map fun i : Nat => (i : Int)).map .int := fun o => by rw [List.map_map]; rfl
  rw [e, e]
  simp only [alike]
  exact alike_ints _ _
theorem depth_tO (o : List Nat) : (tO o).depth = 1 := by
  have e : o.map natD = (o.map fun i : Nat => (i : Int)).map .int := by rw [List.map_map]; rfl
  unfold tO
  rw [e, PyData.depth, depth_ints]
/-- a key object: a tuple of these indices -/
def KeyAt (H : Hp) (v : V) (o : List Nat) : Prop := ∃ b, v = .ref b ∧ H b = some (.tup (tupV o))
def rSrtT : List V → Hp → VK → Prop := fun xs H Q => ∃ (a : Addr) (os : List (List Nat)), xs = [.ref a] ∧ H a = some (tD os) ∧
  ∀ p ws, H p = none → Paired (KeyAt H) ws (os.mergeSort (dataLe false tO)) → Q (.ref p) (upd H p (.lst ws))
section
variable {X : Cx}
theorem each_mapE {α β γ : Type} {R : α → γ → Prop} (f : β → γ) : ∀ {as : List α} {bs : List β}, EachIs (fun a b => R a (f b)) as bs → EachIs R as (bs.map f)
  | _, _, .nil => .nil
  | _, _, .cons h t => .cons h (each_mapE f t)
theorem call_srtT (hc : X.calm = true) (hu : X.A.units + 64 < cLine) : CallR X (.builtin "sorted") rSrtT := by
  intro pins s σ H xs us Q I r h
  obtain ⟨a, os, rfl, hd, q⟩ := h
  obtain ⟨u, rfl, ru⟩ := vals1 r
  cases ru
  obtain ⟨z, hs, ks, pr, o, es, ep, ho, hx, hdt, he, hn⟩ := (show ObjOk X.prog X.w H s.heap a (tD os) from I.hok a _ hd)
  have l1 : es.size = ks.length := size_of_entries he
  have l2 : (os.map entT).length = ks.length := Paired.length pr
  have l3 : os.length = ks.length := by rw [List.length_map] at l2; exact l2
  have e0 : ∀ {os : List (List Nat)} {ks : List (List Key × Addr × Value)}, Paired (fun (p : List Key × V) (q : List Key × Addr × Value) => p.1 = q.1 ∧ H q.2.1 = some (.tup (p.1.map kV)) ∧ RelV p.2 q.2.2) (os.map entT) ks →
      EachIs (fun (u : Value) o => ∃ b, u = .ref b ∧ H b = some (.tup (tupV o))) (ks.map fun x => Value.ref x.2.1) os := by
    intro os
    induction os with
    | nil =>
      intro ks p
      cases p
      exact .nil
    | cons o os ih =>
      intro ks p
      cases p with
      | cons h t => exact .cons ⟨_, rfl, by rw [← kO_V]; exact h.2.1⟩ (ih t)
  have e := e0 pr
  generalize hits : (ks.map fun x => Value.ref x.2.1) = its at e
  have hil : its.length = ks.length := by rw [← hits, List.length_map]
  have hz' : its.length ≤ sizeLine := by rw [hil, ← l2]; exact z
  have er : EachIs (fun v o => ∃ as, Reads s.heap v (tO o) as) its os := e.mono fun u o ⟨b, eu, hb⟩ => by
    subst eu
    exact Dp.reads I (tO o) (.ref b) (.ref b) (.tup (.of hb) (tupV_dp o)) rfl
  have up : ∀ (h' : Heap), (∀ b o, s.heap.get? b = some o → h'.get? b = some o) → EachIs (fun v o => ∃ as, Reads (sortingHeap (h'.push (seqObj "list" its.toArray 0)) h'.objs.size its) v (tO o) as) its os := fun h' k => er.mono fun _ _ ⟨as, r⟩ =>
    ⟨as, PyProof.Rows.Reads.keeps (fun b o q => sortingHeap_old (Nat.ne_of_lt (Heap.lt_size (k b o q))) (Heap.get?_push_of_some _ (k b o q))) r⟩
  refine sorted_from (κ := fun h' => dataKind (sortingHeap (h'.push (seqObj "list" its.toArray 0)) h'.objs.size its) (os.map tO)) (vs := its) hz' (args_sorted1 _) (fun Q' hQ => ?_) (fun h' tk k => ?_) (fun h1 h2 tk c k1 k2 hp => ?_)
  · refine kdu_collect (A := X.A.in1) (kdl_raw hs hx hdt) (I.ok.hd hc) ho (by omega) fun h' tk acc' kp it => ?_
    have ea : acc'.toList = its := by
      rw [← hits]
      have hl : acc'.toList.length = ks.length := by rw [Array.length_toList, it.1]; exact l1
      apply List.ext_getElem?
      intro j
      rw [List.getElem?_map]
      cases hj : acc'.toList[j]? with
      | none =>
        have h1 := List.getElem?_eq_none_iff.mp hj
        rw [List.getElem?_eq_none (by omega)]
        all_goals rfl
      | some v =>
        obtain ⟨en, hen, hv⟩ := it.2 j v (by rw [← Array.getElem?_toList]; exact hj)
        have qe := entry_at he j
        rw [hen] at qe
        cases hb : ks[j]? with
        | none =>
          rw [hb] at qe
          exact nomatch (show some en = none from qe)
        | some b =>
          rw [hb] at qe
          have e2 : en = entryOfKey (tupleKind (mixKind X.prog X.w)) b := Option.some.inj qe
          rw [hv, e2]
          all_goals rfl
    rw [ea]
    exact hQ h' tk kp
  · refine SortsAt.tups (s := { s with heap := sortingHeap (h'.push (seqObj "list" its.toArray 0)) h'.objs.size its, toks := tk }) (each_mapE tO (up h' k)) (alike_tO os) (fun d hd => ?_) fun d hd => ?_
    · obtain ⟨o, _, rfl⟩ := List.mem_map.mp hd
      exact ⟨_, rfl⟩
    · obtain ⟨o, _, rfl⟩ := List.mem_map.mp hd
      rw [depth_tO]
      show X.A.units + 1 + 1 + 1 < cLine
      omega
  · have es := sortVals_data (enc := tO) (bs := os) false e (h' := sortingHeap (h1.push (seqObj "list" its.toArray 0)) h1.objs.size its) (up h1 k1) (alike_tO os)
    have back : ∀ {us : List Value} {os : List (List Nat)}, EachIs (fun (u : Value) o => ∃ b, u = .ref b ∧ H b = some (.tup (tupV o))) us os → ∃ ws, Vals ws us ∧ Paired (KeyAt H) ws os := by
      intro us os p
      induction p with
      | nil => exact ⟨[], .nil, .nil⟩
      | cons h t ih =>
        obtain ⟨b, rfl, hb⟩ := h
        obtain ⟨ws, h1, h2⟩ := ih
        exact ⟨.ref b :: ws, .cons rfl h1, .cons ⟨b, rfl, hb⟩ h2⟩
    obtain ⟨ws, hw1, hw2⟩ := back es
    have I1 : Inv X pins σ H { s with heap := h1, toks := tk } := I.kept k1
    have hfresh : H h1.objs.size = none := I1.hok.fresh (Nat.le_refl _)
    have hlen : ws.length ≤ sizeLine := by
      rw [hw1.length, sortVals_length false rfl]
      exact hz'
    refine ⟨.ref h1.objs.size, upd H h1.objs.size (.lst ws), ?_, rfl, q _ ws hfresh hw2⟩
    exact I1.laid (t' := tk) (h' := h2) k2 (Nat.le_refl _) ⟨hlen, _, c, hw1, hp⟩
def rInT (K : PySem.W.Frag) : R2 := fun x y H Q => ∃ (a b : Addr) (os : List (List Nat)) (o : List Nat), x = .ref b ∧ y = .ref a ∧ SqT K H b (tupV o) ∧ H a = some (tD os) ∧ Q (.bl (decide (o ∈ os))) H
theorem op_inT (hu : X.A.units + 1 < cLine) : OpR X (compareOp .In) (rInT X.K) := by
  intro pins s σ H x y v u Q I rx ry h
  obtain ⟨a, b, os, o, rfl, rfl, hq, hd, q⟩ := h
  cases rx
  cases ry
  obtain ⟨its, rv, ⟨ob, ho, hc, n, hdt⟩, hz⟩ := I.tuple hq
  obtain ⟨z, hs, xs, rel, dd⟩ := dt_rd I.hok (Rd.of hd)
  have key : (tupleKind (mixKind X.prog X.w)).is s.heap (kO o) b := ⟨ob, its.toArray, n, ho, hc, hdt, by
    rw [← kO_V] at rv
    simpa using items_are rv⟩
  refine wpAny_in_heap (tupleKind_room_in1 hu) key hs dd ?_
  have q2 := (rel.val (kO o)).isSome_eq
  rw [Option.isSome_map, valV_tD] at q2
  rw [← q2]
  exact ⟨.bl _, H, I.tok _, rfl, q⟩
theorem hu1 {k : Nat} {A : Around} (hr : Room k A) : A.units + 1 < cLine := by have := hu_units hr; omega
theorem hu65 {k : Nat} {A : Around} (hr : Room k A) : A.units + 65 < cLine := by have := hr.un; omega
theorem kInT {K : PySem.W.Frag} (h : X.K = K) (hu : X.A.units + 1 < cLine) : OpR X (compareOp .In) (rInT K) := h ▸ op_inT hu
end
section
variable {c : Cn} {S : Addr → Bool} {As As1 As2 : Ads} {H H1 : Hp} {M M1 M2 : List MO} {ρ : List Sl} {σ : L2.St} {P P' : Po} {ta tb te tl : TE} {tt tu : TT} {t u : TS} {s : Sl} {v w : V} {Q Q' : QS} {X : XP} {R : VK}
theorem ev_dnewT (q : Q (.m M.length) (M ++ [.ho (tD [])])) : EV c tDNewT ρ M Q X := fun S As σ H e m R k kx => fun p hp => by
  have g := go_own (o := .dT []) m hp
  exact k _ _ _ _ _ q g (m.own hp ⟨upd_same, rfl, rfl⟩) ⟨p, by rw [← m.len]; simp, rfl⟩
theorem vis {b : Addr} {xs : List V} (m : RM c.K c.T S As H M) (hb : H b = some (.tup xs)) : hmk S As H b = some (.tup xs) := by
  refine hmk_of ?_ (fun z => ?_) hb
  · cases e : S b with
    | false => rfl
    | true => exact absurd (m.st b e _ hb) (fun z => nomatch z)
  · exact absurd (m.ntA z hb) (fun z => nomatch z)
theorem ev_sortedT {n j : Nat} {os : List (List Nat)} (hx : ρ[n]? = some (.m j)) (hj : M[j]? = some (.ho (tD os))) (hl : os.length ≤ 100000) (q : Q (.m M.length) (M ++ [.lst ((os.mergeSort (dataLe false tO)).map tO)])) : EV c (tCB rSrtT (tCons (tVar n) tNil)) ρ M Q X :=
  ev_cb (ea_cons (ev_var hx (fun z => nomatch z) (ea_nil fun S As H vs hv m R k => by
    obtain ⟨v, rfl, r⟩ := slrs1 hv
    obtain ⟨a, ea, rfl⟩ := r
    obtain ⟨b, eb, hH, _, _⟩ := m.ex hj
    rw [ea] at eb; cases eb
    refine ⟨a, os, rfl, hH, fun p ws hp hw => ?_⟩
    have dp : ∀ {ws : List V} {os : List (List Nat)}, Paired (KeyAt H) ws os → DpAll c.K (hmk S As H) ws (os.map tO) := by
      intro ws os h
      induction h with
      | nil => exact .nil
      | cons h t ih =>
        obtain ⟨b, rfl, hb⟩ := h
        exact .cons (.tup (.of (vis m hb)) (tupV_dp _)) ih
    refine own_new m hp ?_ (dp hw) k q
    rw [List.length_map, List.length_mergeSort]
    exact Nat.le_trans hl (by decide))))
theorem dv_inT {n j : Nat} {os : List (List Nat)} {o : List Nat} (ha : Dv c ta ρ M (tO o)) (hx : ρ[n]? = some (.m j)) (hj : M[j]? = some (.ho (tD os))) : Dv c (tOp (rInT c.K) ta (tVar n)) ρ M (.bool (decide (o ∈ os))) :=
  ev_op (ev_dv ha (ev_var hx (fun z => nomatch z) fun S As H v w hv hw m R k => by
    obtain ⟨b, vs, rfl, h1, h2⟩ := dp_tup hv
    have := dp_tupV h2
    subst this
    obtain ⟨a, ea, rfl⟩ := hw
    obtain ⟨a', ea', hH, _, _⟩ := m.ex hj
    rw [ea] at ea'; cases ea'
    exact ⟨a, b, os, o, rfl, rfl, hmk_sqT h1, hH, k.here ⟨rfl, rfl⟩ m (.bl _)⟩))
/-- d[tuple(xs)] = True -/
theorem ex_setTup {n jd : Nat} (hx : ρ[n]? = some (.m jd)) (h : EV c te ρ M (fun s M1 => s = .d (.bool true) ∧ EV c tl ρ M1 (fun s2 M2 => ∃ os o, RdS s2 M2 (.list (o.map natD)) ∧ M2[jd]? = some (.ho (tD os)) ∧ os.length < 100000 ∧ P.nx ρ (M2.set jd (.ho (tD (putO os o))))) (fun C M' => P.xp C ρ M')) (fun C M' => P.xp C ρ M')) :
    EX c (tAsg te (gSub (tVar n) (tCB (fun xs H Q => ∃ p ys, xs = [.ref p] ∧ ((SqL c.K H p ys ∧ ∀ l, H l = none → Q (.ref l) (upd H l (.tup ys))) ∨ (SqT c.K H p ys ∧ Q (.ref p) H))) (tCons tl tNil)) rSetD)) ρ M P := fun S As σ H e m D k1 k2 k3 k4 k5 =>
  h S As σ H e m _ (fun s M1 As1 v H1 ⟨es, q1⟩ g1 m1 r1 => by
    subst es
    cases r1
    obtain ⟨u, e1, r⟩ := (e.go g1).at_ n _ hx (fun z => nomatch z)
    obtain ⟨a, ea, rfl⟩ := r
    refine ⟨.ref a, e1, q1 S As1 σ H1 (e.go g1) m1 _ (fun s2 M2 As2 w H2 ⟨os, o, hs, hj, hl, qn⟩ g2 m2 r2 => ?_) ((k5.at_ e).go g1)⟩
    have dp := rd_dp m2 hs r2
    obtain ⟨p, vs, rfl, hq, hd⟩ := dp_lst dp
    have := dp_tupV hd
    subst this
    refine ⟨p, _, rfl, .inl ⟨hq, fun l hl0 => ?_⟩⟩
    obtain ⟨b, eb, hH, _, _⟩ := m2.ex hj
    rw [g2.ix ea] at eb; cases eb
    have ne : a ≠ l := fun z => by rw [z, hl0] at hH; cases hH
    refine ⟨a, _, rfl, DPut.t (kvs := os.map entT) (k := kO o) (by rw [upd_ne ne]; exact hH) (by rw [kO_V]; exact upd_same) (by rw [List.length_map]; exact Nat.lt_of_lt_of_le hl (by decide)), ?_⟩
    rw [putK_tD]
    have g3 := go_new (o := .tup (tupV o)) m2 hl0
    have m3 := m2.new (o := .tup (tupV o)) hl0
    have hH3 : upd H2 l (.tup (tupV o)) a = some (tD os) := by rw [upd_ne ne]; exact hH
    have g4 := go_mut (o := tD (putO os o)) m3 (g2.ix ea) hH3 rfl (fun φ z => nomatch z)
    exact k1 _ _ As2 _ _ qn (((g1.trans g2).trans g3).trans g4) ((((e.go g1).go g2).go g3).go g4) (m3.mut (g2.ix ea) hH3 rfl (fun φ z => nomatch z) ⟨upd_same, rfl, rfl⟩)) (k5.at_ e)
end
section
variable {c : Cn} {M : List MO} {ρ : List Sl} {ta tb : TE}
theorem dv_notBl {x y : Bool} (ha : Dv c ta ρ M (.bool x)) (hb : Dv c tb ρ M (.bool y)) : Dv c (tOp rNotB ta tb) ρ M (.bool (!decide (x = y))) :=
  dv_op ha hb fun S As H v w hv hw m R k => by
    cases hv; cases hw
    exact ⟨x, y, rfl, rfl, k.here ⟨rfl, rfl⟩ m (.bl _)⟩
end
section
variable {c : Cn} {S : Addr → Bool} {As : Ads} {H : Hp} {M : List MO} {ρ : List Sl} {ta tb te : TE}
theorem rd_list {d : PyData} {ds : List PyData} (h : Rd c te ρ M d) (e : d = .list ds) {r : List V → Hp → VK → Prop} {z : PyData}
    (hr : ∀ S As H v, Dp c.K H v (.list ds) → RM c.K c.T S As H M → ∀ R, KS c S As H (fun s M' => s = .d z ∧ M' = M) R → r [v] H R) : Dv c (tCB r (tCons te tNil)) ρ M z :=
  ev_cb (ea_cons (EV.imp h (fun s M' ⟨e1, hs⟩ => by
    subst e1
    subst e
    exact ea_nil fun S As H vs hv m R k => by
      obtain ⟨v, rfl, r'⟩ := slrs1 hv
      exact hr S As H v (rd_dp m hs r') m R k) fun _ _ z => z))
theorem dv_minR {ns : List Int} {m : Int} (h : Rd c te ρ M (.list (ns.map .int))) (hm : m ∈ ns) (hle : ∀ y ∈ ns, m ≤ y) : Dv c (tCB (rMin c.K) (tCons te tNil)) ρ M (.int m) :=
  rd_list h rfl fun S As H v d m' R k => by
    obtain ⟨a, vs, rfl, h1, h2⟩ := dp_lst d
    have := dp_ints h2
    subst this
    refine ⟨a, ns, rfl, h1, List.length_pos_of_mem hm, fun x hx hxle => ?_⟩
    have : x = m := Int.le_antisymm (hxle m hm) (hle x hx)
    subst this
    exact k.here ⟨rfl, rfl⟩ m' (.int _)
theorem dv_maxR {ns : List Int} {m : Int} (h : Rd c te ρ M (.list (ns.map .int))) (hm : m ∈ ns) (hle : ∀ y ∈ ns, y ≤ m) : Dv c (tCB (rMax c.K) (tCons te tNil)) ρ M (.int m) :=
  rd_list h rfl fun S As H v d m' R k => by
    obtain ⟨a, vs, rfl, h1, h2⟩ := dp_lst d
    have := dp_ints h2
    subst this
    refine ⟨a, ns, rfl, h1, List.length_pos_of_mem hm, fun x hx hxle => ?_⟩
    have : x = m := Int.le_antisymm (hle x hx) (hxle m hm)
    subst this
    exact k.here ⟨rfl, rfl⟩ m' (.int _)
theorem dv_notInD {d : PyData} {ds : List PyData} (ha : Dv c ta ρ M d) (hb : Dv c tb ρ M (.list ds)) (h1 : SeqAt.shaped d = true) (h2 : SeqAt.shaped (.list ds) = true) : Dv c (tOp (rNotInD c.K) ta tb) ρ M (.bool (!ds.any fun z => PyData.eqv z d)) :=
  dv_op ha hb fun S As H v w hv hw m R k => ⟨d, ds, hv.dp, hw.dp, h1, h2, k.here ⟨rfl, rfl⟩ m (.bl _)⟩
end
end DL

set_option Elab.async false
set_option linter.all false
set_option autoImplicit false
set_option maxRecDepth 100000
set_option maxHeartbeats 2000000
/-! DL: sorted(.., key=lambda i: ..), the lambda made here. -/
namespace DL
open PySem PySem.Spec PySem.Calls PyProof.Rows PySem.W L2
/-! ### the body of a key: d[x], 0 - d[x], d captured -/
def KyB (body : Expr) (x d : Str) (kf : Int → Int) : Prop :=
  ∀ (prog : Program) (w : World) (A : Around) (E : Value → Shared → Prop) (env : Env) (s : Shared) (m : Str → Option Value) (c a : Addr) (items : Array Value) (i n : Int) (t t' : Tok) (Q : Value → Shared → Prop),
    env.scope.kind = .function → env.kindOf x = some .local → env.kindOf d = some .free → s.heap.Ns env.locals m → m x = some (.int i t) → env.cells.lookup d = some c → s.heap.IsCell c (some (.ref a)) → IsTup s.heap a items →
    0 ≤ i → i < items.size → items.size ≤ 2 ^ 40 → items[i.toNat]? = some (.int n t') → (∀ t'' tk, Q (.int (kf n) t'') { s with toks := tk }) → wpAny (model prog w) A (eval body env) Q E s
theorem kb_idx {x d : Str} {p1 p2 p3 : Pos} (hx : (x == ("__debug__" : Str)) = false := by decide) (hd : (d == ("__debug__" : Str)) = false := by decide) (hc : (d == ("__classdict__" : Str)) = false := by decide) : KyB (.Subscript (.Name d p1) (.Name x p2) p3) x d id := by
  intro prog w A E env s m c a items i n t t' Q hk kx kd hns hm hl hcell ht h0 h1 hz he q
  have hj : seqIndex? i items.size = some i.toNat := seqIndex_of h0 h1
  refine Subscript_ (wpAny_Name (wpAny_loadName_free hk kd hl hcell ?_ hc) hd)
  refine wpAny_Name (wpAny_loadName_local hk kx hns hm ?_) hx
  exact subscriptTail_builtinR (x := .int n t') ht.typeIs slot_tuple_getitem.lookup
    (getItem_tuple (j := i.toNat) (Q := fun r s' => r = .int n t' ∧ Q r s') ht (by omega) (by omega) hj he ⟨rfl, q t' s.toks⟩)
theorem kb_neg {x d : Str} {p1 p2 p3 p4 p5 : Pos} {j : Nat} (hx : (x == ("__debug__" : Str)) = false := by decide) (hd : (d == ("__debug__" : Str)) = false := by decide) (hc : (d == ("__classdict__" : Str)) = false := by decide) :
    KyB (.BinOp (.Constant (.int 0) j p4) .Sub (.Subscript (.Name d p1) (.Name x p2) p3) p5) x d (fun n => 0 - n) := by
  intro prog w A E env s m c a items i n t t' Q hk kx kd hns hm hl hcell ht h0 h1 hz he q
  refine wpAny_BinOp (wpAny_Constant_int ?_)
  refine kb_idx hx hd hc prog w _ _ env { s with toks := s.toks + 1 } m c a items i n t t' _ hk kx kd hns hm hl hcell ht h0 h1 hz he fun t'' tk => ?_
  exact sub_int (q _ _)
/-! ### the lambda's call -/
section
variable {prog : Program} {w : World} {A : Around} {s : Shared}
/-- one parameter x, of its own; d captured -/
structure LamK (sc scope : Scope) (x d : Str) : Prop where
  kind : scope.kind = .function
  co : scope.isCoroutine = false
  gen : scope.isGenerator = false
  nocell : ∀ y ∈ scope.names, y.2 ≠ .cell
  par : scope.names.lookup x = some .local
  cap : scope.names.lookup d = some .free
  free : ∀ y ∈ scope.names, y.2 = .free → sc.names.lookup y.1 = some .cell ∨ sc.names.lookup y.1 = some .free
theorem lamK_turn {q : Str} {params : Arguments} {body : Expr} {scope sc : Scope} {x d : Str} {kf : Int → Int} {cl : List (Str × Addr)} {pm ctv : Value} {f c c' a : Addr} {items : Array Value} {i n : Int} {t t' : Tok}
    (L : LamK sc scope x d) (B : KyB body x d kf) (hd : A.depth < recursionLimit) (lim : s.heap.NoLimit)
    (hf : s.heap.get? f = some (PySem.W.kla_obj "<lambda>" q params body scope cl pm c' ctv)) (hcr : s.heap.CodeRec (.ref c') q)
    (hbind : ∀ v, bindArgs (PySem.W.kla_fn "<lambda>" q params body scope cl pm (.ref c') ctv) ⟨[v], []⟩ = pure [(x, v)])
    (hl : cl.lookup d = some c) (hcell : s.heap.IsCell c (some (.ref a))) (ht : IsTup s.heap a items) (h0 : 0 ≤ i) (h1 : i < items.size) (hz : items.size ≤ 2 ^ 40) (he : items[i.toNat]? = some (.int n t')) :
    wpAny (model prog w) A (call (.ref f) [.int i t]) (KeyPure (.int (kf n)) s) (fun _ _ => False) s := by
  refine wpAny_call (PySem.W.kla_callFunE hd hf rfl L.co L.gen rfl hcr ?_)
  rw [hbind]
  refine wpAny_pure (wpAny_newFunctionEnv L.nocell (fun y hy => ?_) (fun h₁ hns hsb => ⟨lim.fresh _ hsb, ?_⟩) L.kind)
  · rw [List.mem_singleton.mp hy]
    exact L.par
  have kp : ∀ b o, s.heap.get? b = some o → h₁.get? b = some o := fun b o e => hsb.extBut b o (Nat.ne_of_lt (Heap.lt_size e)) (Heap.get?_push_of_some _ e)
  refine PySem.W.kla_codeExpr ?_
  refine B prog w _ _ _ _ (fun y => List.lookup y [(x, Value.int i t)].reverse) c a items i n t t' _ L.kind L.par L.cap hns ?_ hl ?_ (ht.keeps kp) h0 h1 hz he fun t'' tk => ?_
  · simp
  · obtain ⟨o, ho, hdt⟩ := hcell
    exact ⟨o, kp _ _ ho, hdt⟩
  · exact ⟨h₁, tk, rfl, kp, .int _ _⟩
end
/-! ### sorted(x, key=f), x anything that is collected -/
section
variable {prog : Program} {w : World} {A : Around} {E : Value → Shared → Prop} {s : Shared} {β : Type} {bs : List β} {R : Value → β → Prop}
theorem sorted_key_from {x f : Value} {kw : List (Str × Value)} {b : Bool} {Q : Value → Shared → Prop} (k : β → PyData) (hal : AllAlike (bs.map k)) (hk : Sortable (bs.map k)) (hL : bs.length ≤ sizeLine)
    (hu : ∀ x, x ∈ bs → A.units + 2 + (k x).depth < cLine) (ha1 : argsOk "sorted" ⟨[x], kw⟩) (ha2 : ∀ x, argsOk "list.sort" ⟨[.ref x], kw⟩) (ht : ∀ x, Builtin.«list.sort» ⟨[.ref x], kw⟩ = ksk_tree x f b)
    (hcol : ∀ (Q' : List Value → Shared → Prop), (∀ (vs : List Value) (h' : Heap) (tk : Nat), EachIs R vs bs → (∀ b o, s.heap.get? b = some o → h'.get? b = some o) → Q' vs { s with heap := h', toks := tk }) → wpAny (model prog w) A.in1 (collect x) Q' E s)
    (turn : ∀ (v : Value) (x : β), R v x → x ∈ bs → ∀ (h : Heap) (tk : Nat), (∀ b o, s.heap.get? b = some o → h.get? b = some o) →
      wpAny (model prog w) A.in1.in1 (call f [v]) (KeyPure (k x) { s with heap := h, toks := tk }) (fun _ _ => False) { s with heap := h, toks := tk })
    (h : ∀ out (h1 : Heap) c h' tk, (∀ b o, s.heap.get? b = some o → h1.get? b = some o) → (∀ b o, h1.get? b = some o → h'.get? b = some o) → h'.get? h1.objs.size = some (seqObj "list" (List.toArray out) c) → out.length = bs.length → EachIs R out (bs.mergeSort (dataLe b k)) → Q (.ref h1.objs.size) { s with heap := h', toks := tk }) :
    wpAny (model prog w) A (call (.builtin "sorted") [x] kw) Q E s := by
  refine call_function_entry_kw kind_sorted plain_sorted entry_sorted ha1 ?_
  unfold Builtin.«sorted»
  refine wpAny_bind (m := checkCount "sorted" 1 1 _) (wpAny_pure ?_)
  refine wpAny_bind (hcol _ fun vs h1 tk1 e k1 => ?_)
  have hZ : vs.length ≤ sizeLine := by rw [e.length]; exact hL
  refine wpAny_bind (wpAny_newList ?_ hZ)
  show wpAny _ _ _ _ _ { s with heap := h1.push (seqObj "list" vs.toArray 0), toks := tk1 }
  have hat : (h1.push (seqObj "list" vs.toArray 0)).get? h1.objs.size = some (seqObj "list" vs.toArray 0) := Heap.get?_push_size _ rfl
  have up : ∀ {g : Heap}, KeepsBut h1.objs.size (h1.push (seqObj "list" vs.toArray 0)) g → ∀ b o, s.heap.get? b = some o → g.get? b = some o := fun {g} kp b o q =>
    kp b o (Nat.ne_of_lt (Heap.lt_size (k1 b o q))) (Heap.get?_push_of_some _ (k1 b o q))
  refine wpAny_bind (wpAny_holding (wpAny_call_entry_kw slot_list_sort ⟨_, hat, rfl⟩ entry_list_sort ?body (ha2 _)))
  case body =>
    show wpAny (model prog w) A.in1.in1 (Builtin.«list.sort» ⟨[.ref h1.objs.size], kw⟩) _ _ _
    rw [ht]
    refine keyH_tree (kz := bs.map k) (s := { s with heap := h1.push (seqObj "list" vs.toArray 0), toks := tk1 }) hat (by rw [List.length_map]; exact e.length.symm) hZ hal hk (bound_map (A := A.in1.in1) hu)
      (keyH_turns (s := { s with heap := h1.push (seqObj "list" vs.toArray 0), toks := tk1 }) e fun v x hR hx g tk kp => turn v x hR hx g tk (up kp)) fun h' tk out c kp hD ko => ⟨_, rfl, wpAny_pure ⟨_, rfl, ?_⟩⟩
    exact h out h1 c h' tk k1 (fun b o q => kp b o (Nat.ne_of_lt (Heap.lt_size q)) (Heap.get?_push_of_some _ q)) hD ((ko.length (by rw [List.length_map]; exact e.length.symm)).trans e.length) (keyedOut_each k ko e)
end
/-! ### the lambda made -/
/-- what was there is there, a tuple or none as before -/
def Dm (H H1 : Hp) : Prop := ∀ b u, H b = some u → ∃ u', H1 b = some u' ∧ isTupO u' = isTupO u
section
variable {X : Cx} {pins : List (Addr × Obj)} {σ : L2.St} {H : Hp} {s : Shared}
/-- the lambda is made: what was there stays, but the tables may grow -/
theorem lam_mk {T : List NdefX.NTab} {c P : Addr} {params : Arguments} {body : Expr} {scope : Scope} {pos : Pos} {E : Value → Shared → Prop} {Q : Value → Shared → Prop} (I : Inv X pins σ H s) (TB : LamX.TabB X.base X.mg c P) (hcode : X.env.code = .ref c)
    {nm : Nat → Nat → Str} (hm : (P, nm) ∈ T) (hn : nm pos.line pos.col = X.env.qual ++ "<lambda>") (hu : ∀ p ∈ T, p.1 = P → p.2 = nm) (hT : NdefX.TabsN T H) (hdef : defaultsOf params X.env = ([], [])) (hfree : ∀ y ∈ scope.names, y.2 = .free → ∃ c, X.env.cells.lookup y.1 = some c)
    (h : ∀ (f c' : Addr) (pm ctv : Value) (H1 : Hp) (s' : Shared), Inv X pins σ H1 s' → LamX.ExtN H H1 → Dm H H1 → NdefX.TabsN T H1 →
      s'.heap.get? f = some (PySem.W.kla_obj "<lambda>" (X.env.qual ++ "<lambda>") params body scope (cloFrom X.env.cells scope.names []) pm c' ctv) → H1 f = none → f ∉ frs X.stack → H1 c' = some (LamX.CodeO c' (X.env.qual ++ "<lambda>")) → Q (.ref f) s') :
    wpAny (model X.prog X.w) X.A (eval (.Lambda params body scope pos) X.env) Q E s := by
  obtain ⟨ps, hP, ht, ha⟩ := (show NdefX.TabN H P nm from hT _ hm)
  refine PySem.W.kla_eval hdef ?_
  have bP : s.heap.BuiltinsAt X.mg P := TB.bm.keeps I.bk
  have hP' : s.heap.get? P = some { cls := .none, data := .fields ps } := I.hok P _ hP
  have nofr : ∀ f, s.heap.objs.size ≤ f → f ∉ frs X.stack := fun f hf z => by
    rcases List.mem_cons.mp (I.stkSub _ z) with e | e
    · have h1 := I.lt
      rw [← e] at h1
      exact Nat.lt_irrefl _ (Nat.lt_of_lt_of_le h1 hf)
    · exact I.nofs hf e
  cases hc : codeAmong pos ps.toList with
  | none =>
    refine PySem.W.kla_makeFunction (mg := X.mg) (c := c) (P := P) (ps := ps) (closure_ok hfree) I.ok.glob (I.mod.glob.keeps I.bk) hcode (TB.code.keeps I.bk) hP' ht hc TB.gP bP fun c' ctv h' tk hx hge hlt hrec htb => ?_
    obtain ⟨c2, oc, vs, t, e2, hoc, hd, hv⟩ := hrec
    cases e2
    have hsz : s.heap.objs.size ≤ h'.objs.size := Nat.le_trans hge (Nat.le_of_lt hlt)
    have nC : H c' = none := I.hok.fresh hge
    have I1 := LamX.inv_table (q := X.env.qual ++ "<lambda>") (t' := tk) (more := #[rawInt pos.line, rawInt pos.col, .ref c']) (h' := h'.push (PySem.W.kla_obj "<lambda>" (X.env.qual ++ "<lambda>") params body scope (cloFrom X.env.cells scope.names []) ((X.mg "__name__").getD .none) c' ctv)) I hP
      (fun b o hb e => Heap.get?_push_of_some _ (hx b o hb e)) (Heap.get?_push_of_some _ htb) hge ⟨oc, vs, t, Heap.get?_push_of_some _ hoc, hd, hv⟩
    have hE : LamX.ExtN H (upd (upd H P (.tbl (ps ++ #[rawInt pos.line, rawInt pos.col, .ref c']))) c' (LamX.CodeO c' (X.env.qual ++ "<lambda>"))) := fun b o e n => by
      rw [upd_ne (ne_of_none e nC), upd_ne (fun z => n ps (Option.some.inj (e.symm.trans (by rw [z]; exact hP))))]
      exact e
    have eL : (ps ++ #[rawInt pos.line, rawInt pos.col, .ref c']).toList = ps.toList ++ [rawInt pos.line, rawInt pos.col, .ref c'] := by simp
    refine h h'.objs.size c' ((X.mg "__name__").getD .none) ctv _ _ I1 hE (fun b u hb => ?_) (fun p hp => ?_) (Heap.get?_push_size _ rfl) ?_ (nofr _ hsz) upd_same
    · rw [upd_ne (ne_of_none hb nC)]
      by_cases h2 : b = P
      · rw [h2, upd_same]
        rw [h2, hP] at hb
        cases hb
        exact ⟨_, rfl, rfl⟩
      · rw [upd_ne h2]; exact ⟨u, hb, rfl⟩
    · by_cases hb : p.1 = P
      · rw [hu p hp hb, hb]
        refine ⟨_, by rw [upd_ne (ne_of_none hP nC), upd_same], by rw [eL]; exact PySem.TriplesOk_snoc _ _ _ _ ht, fun p' cv hcv => ?_⟩
        rw [eL] at hcv
        rcases NdefX.among_app2 _ ht hcv with z | ⟨z, z1, z2⟩
        · obtain ⟨c0, e1, e2⟩ := ha p' cv z
          exact ⟨c0, e1, hE _ _ e2 LamX.codeO_ne⟩
        · refine ⟨c', z, ?_⟩
          rw [← z1, ← z2, hn]
          exact upd_same
      · obtain ⟨ps', a1, a2, a3⟩ := hT p hp
        refine ⟨ps', by rw [upd_ne (ne_of_none a1 nC), upd_ne hb]; exact a1, a2, fun p' cv hcv => ?_⟩
        obtain ⟨c0, e1, e2⟩ := a3 p' cv hcv
        exact ⟨c0, e1, hE _ _ e2 LamX.codeO_ne⟩
    · have n1 : h'.objs.size ≠ c' := Nat.ne_of_gt hlt
      have n2 : h'.objs.size ≠ P := Nat.ne_of_gt (Nat.lt_of_lt_of_le (Heap.lt_size hP') hsz)
      rw [upd_ne n1, upd_ne n2]
      exact I.hok.fresh hsz
  | some cv =>
    obtain ⟨c', e, hco⟩ := ha pos cv hc
    subst e
    rw [hn] at hco
    refine PySem.W.kla_makeFunctionHit (mg := X.mg) (c := c) (P := P) (ps := ps) (closure_ok hfree) I.ok.glob (I.mod.glob.keeps I.bk) hcode (TB.code.keeps I.bk) hP' ht hc bP fun ctv h' tk hx hsz => ?_
    have I1 : Inv X pins σ H { s with heap := h'.push (PySem.W.kla_obj "<lambda>" (X.env.qual ++ "<lambda>") params body scope (cloFrom X.env.cells scope.names []) ((X.mg "__name__").getD .none) c' ctv), toks := tk } := I.kept fun b o e => Heap.get?_push_of_some _ (hx b o e)
    exact h h'.objs.size c' ((X.mg "__name__").getD .none) ctv H _ I1 (LamX.ExtN.refl H) (fun _ u z => ⟨u, z, rfl⟩) hT (Heap.get?_push_size _ rfl) (I.hok.fresh hsz) (nofr _ hsz) hco
end
/-! ### the rule -/
def keyOf (kf : Int → Int) (ns : List Int) (i : Int) : PyData := .int (kf (ns.getD i.toNat 0))
/-- from a source of whole numbers on: the captured tuple, the sorted list -/
def kSrK (K : PySem.W.Frag) (T : List NdefX.NTab) (jd : Nat) (kf : Int → Int) (σ : L2.St) (is : List Int) (H1 : Hp) (Q : VK) : Prop :=
  NdefX.TabsN T H1 ∧ ∃ (a : Addr) (ns : List Int), σ[jd]? = some (some (.ref a)) ∧ SqT K H1 a (ns.map .int) ∧ (∀ i ∈ is, 0 ≤ i ∧ i < ns.length) ∧ is.length ≤ sizeLine ∧
    ∀ (H2 : Hp) (q : Addr), LamX.ExtN H1 H2 → Dm H1 H2 → NdefX.TabsN T H2 → H2 q = none → Q (.ref q) (upd H2 q (.lst ((is.mergeSort (dataLe false (keyOf kf ns))).map .int)))
def tSrtKL (K : PySem.W.Frag) (T : List NdefX.NTab) (jd : Nat) (kf : Int → Int) (te : TE) : TE := fun σ H Q => te σ H fun v H1 => ∃ (p : Addr) (is : List Int), v = .ref p ∧ (SqL K H1 p (is.map .int) ∨ SqT K H1 p (is.map .int)) ∧ kSrK K T jd kf σ is H1 Q
theorem extN_kp {H H' : Hp} (e : LamX.ExtN H H') : Kp H H' := fun x o h t => e x o h fun ps z => by
  rw [z] at t; cases t
theorem each_ints : ∀ {vs : List Value} {is : List Int}, Vals (is.map .int) vs → EachIs (fun v (i : Int) => ∃ t, v = .int i t) vs is
  | [], [], _ => .nil
  | _ :: _, [], h => by cases h
  | [], _ :: _, h => by cases h
  | _ :: _, _ :: _, .cons ⟨t, e⟩ r => .cons ⟨t, e⟩ (each_ints r)
theorem vals_ints : ∀ {vs : List Value} {is : List Int}, EachIs (fun v (i : Int) => ∃ t, v = .int i t) vs is → Vals (is.map .int) vs
  | _, _, .nil => .nil
  | _, _, .cons ⟨t, e⟩ r => .cons ⟨t, e⟩ (vals_ints r)
section
variable {X : Cx} {pins : List (Addr × Obj)} {σ : L2.St} {H : Hp} {s : Shared}
/-- the call of sorted, the lambda made -/
theorem srtK_call {T : List NdefX.NTab} {jd : Nat} {x d : Str} {kf : Int → Int} {params : Arguments} {body : Expr} {scope : Scope} {H1 : Hp} {is : List Int} {f c' : Addr} {pm ctv u : Value} {Q : VK} (L : LamK X.env.scope scope x d) (B : KyB body x d kf) {k : Nat} (hr : Room k X.A)
    (hN : X.N[jd]? = some d) (hv : X.env.scope.names.lookup d = some .cell ∨ X.env.scope.names.lookup d = some .free)
    (hbind : ∀ (q : Str) (cl : List (Str × Addr)) (pm cv ctv v : Value), bindArgs (PySem.W.kla_fn "<lambda>" q params body scope cl pm cv ctv) ⟨[v], []⟩ = pure [(x, v)])
    (I : Inv X pins σ H1 s) (hT : NdefX.TabsN T H1) (hf : s.heap.get? f = some (PySem.W.kla_obj "<lambda>" (X.env.qual ++ "<lambda>") params body scope (cloFrom X.env.cells scope.names []) pm c' ctv)) (hco : H1 c' = some (LamX.CodeO c' (X.env.qual ++ "<lambda>")))
    (hcol : ∀ (Q' : List Value → Shared → Prop), (∀ (vs : List Value) (h' : Heap) (tk : Nat), Vals (is.map .int) vs → (∀ b o, s.heap.get? b = some o → h'.get? b = some o) → Q' vs { s with heap := h', toks := tk }) → wpAny (model X.prog X.w) X.A.in1 (collect u) Q' X.xe s)
    {a : Addr} {ns : List Int} (hs : σ[jd]? = some (some (.ref a))) (ht : SqT X.K H1 a (ns.map .int)) (hi : ∀ i ∈ is, 0 ≤ i ∧ i < ns.length) (hz : is.length ≤ sizeLine)
    (hq : ∀ q, H1 q = none → Q (.ref q) (upd H1 q (.lst ((is.mergeSort (dataLe false (keyOf kf ns))).map .int)))) :
    wpAny (model X.prog X.w) X.A (call (.builtin "sorted") [u] [(Str.ofString "key", .ref f)]) (EP X pins σ Q) X.xe s := by
  obtain ⟨its, ri, pl, hzt⟩ := I.tuple ht
  have hzl : sizeLine < 2 ^ 40 := by rw [sizeLine_eq]; decide
  rw [List.length_map] at hzt
  have hil : its.length = ns.length := by rw [← ri.length, List.length_map]
  obtain ⟨c, hc, hcell⟩ : ∃ c, (cloFrom X.env.cells scope.names []).lookup d = some c ∧ s.heap.IsCell c (some (.ref a)) := by
    have hfr : (d, NameKind.free) ∈ scope.names := PySem.mem_of_lookup L.cap
    obtain ⟨c2, h2⟩ := mem_lookup (cloFrom_has (cells := X.env.cells) (acc := []) hfr)
    refine ⟨c2, h2, ?_⟩
    obtain ⟨m, hn, hl⟩ := I.loc
    obtain ⟨w', r, q⟩ := hl jd d _ hN hs (hv.elim (fun z => .inr (.inl z)) (fun z => .inr (.inr z)))
    obtain rfl : w' = .ref a := r
    rcases q with ⟨k', _⟩ | ⟨_, c3, e', z⟩
    · have k' : X.env.scope.names.lookup d = some .local := k'
      rcases hv with k2 | k2 <;> rw [k2] at k' <;> cases k'
    · have : c2 = c3 := by
        rcases cloFrom_mem (PySem.mem_of_lookup h2) with hm | ⟨_, e2⟩
        · cases hm
        · rw [e2, e'] <;> rfl
      rw [this]
      exact z
  obtain ⟨⟨oc, xs, tq, hoc, hdc, hvc⟩, _, _⟩ := I.hok c' _ hco
  refine sorted_key_from (b := false) (R := fun v (i : Int) => ∃ t, v = .int i t) (keyOf kf ns) (AllAlike.of fun _ _ => by simp [keyOf, alike]) (Sortable.others fun _ => ⟨by simp [keyOf], by simp [keyOf]⟩) hz (fun i _ => ?_) (ksk_s1 _ _) (fun _ => ksk_l1 _ _) (fun _ => ksk_t1 _ _) (fun Q' hQ => hcol Q' fun vs h' tk rv k => hQ vs h' tk (each_ints rv) k) (fun v i ⟨t, e⟩ him h tk kp => ?_) (fun out h1 c h' tk k1 k2 hp hlen eo => ?_)
  · have := hr.units
    show X.A.units + 2 + 0 < cLine
    omega
  · subst e
    obtain ⟨h0, h1⟩ := hi i him
    have hlt : i.toNat < its.length := by omega
    obtain ⟨n, t', he⟩ : ∃ n t', its[i.toNat]? = some (.int n t') ∧ n = ns.getD i.toNat 0 := by
      have hg : (ns.map V.int)[i.toNat]? = some (.int (ns.getD i.toNat 0)) := by
        rw [List.getElem?_map, List.getD_eq_getElem?_getD, List.getElem?_eq_getElem (by omega)]; rfl
      obtain ⟨w', ew, t', rw'⟩ := ri.get hg
      exact ⟨_, t', by rw [ew, rw'], rfl⟩
    obtain ⟨he, rfl⟩ := he
    have hcell' : h.IsCell c (some (.ref a)) := by
      obtain ⟨o, ho, hdt⟩ := hcell
      exact ⟨o, kp _ _ ho, hdt⟩
    refine lamK_turn (s := { s with heap := h, toks := tk }) L B hr.depth (I.nolimit.keeps kp) (kp _ _ hf) ⟨c', oc, xs, tq, rfl, kp _ _ hoc, hdc, hvc⟩ (hbind _ _ _ _ _) hc hcell' (pl.keeps kp) h0 (by rw [List.size_toArray]; omega) (by rw [List.size_toArray]; omega) (by simpa using he)
  · have I1 : Inv X pins σ H1 { s with heap := h1, toks := tk } := I.kept k1
    have hv' := vals_ints eo
    refine ⟨.ref h1.objs.size, upd H1 h1.objs.size (.lst ((is.mergeSort (dataLe false (keyOf kf ns))).map .int)), ?_, rfl, hq _ (I1.hok.fresh (Nat.le_refl _))⟩
    exact I1.laid (t' := tk) (h' := h') k2 (Nat.le_refl _) ⟨by rw [List.length_map, List.length_mergeSort]; exact hz, _, c, hv', hp⟩
/-- sorted(e, key=lambda x: ..), e a list or a tuple -/
theorem pe_srtKL {T : List NdefX.NTab} {jd : Nat} {x d : Str} {kf : Int → Int} {params : Arguments} {body e : Expr} {scope : Scope} {te : TE} {c P : Addr} {k : Nat} {p pos lpos kpos : Pos} (hg : Gl X "sorted") (hm : X.mg "sorted" = none) (he : PE X e te) (L : LamK X.env.scope scope x d) (B : KyB body x d kf) (hr : Room k X.A)
    (hN : X.N[jd]? = some d) (hv : X.env.scope.names.lookup d = some .cell ∨ X.env.scope.names.lookup d = some .free)
    (hbind : ∀ (q : Str) (cl : List (Str × Addr)) (pm cv ctv v : Value), bindArgs (PySem.W.kla_fn "<lambda>" q params body scope cl pm cv ctv) ⟨[v], []⟩ = pure [(x, v)])
    (TB : LamX.TabB X.base X.mg c P) (hcode : X.env.code = .ref c) {nm : Nat → Nat → Str} (hmT : (P, nm) ∈ T) (hnm : nm lpos.line lpos.col = X.env.qual ++ "<lambda>") (hu : ∀ p ∈ T, p.1 = P → p.2 = nm) (hdef : defaultsOf params X.env = ([], []))
    (na : starEach [e] X.env = (false, eval e X.env) :: starEach [] X.env := by rfl) :
    PE X (.Call (.Name "sorted" p) [e] [⟨some "key", .Lambda params body scope lpos, kpos⟩] pos) (tSrtKL X.K T jd kf te) := by
  refine ⟨fun pins s σ H Q I h => ?_⟩
  refine wpAny_Call_Name_kw (ld_blt I hg hm (by rfl) ?_)
  refine PyProof.Rows.callWith_kw (one_arg he I h (fun u s2 v H2 I2 r q => ?_) na) (by rw [na]; rfl) (by rw [na]; rfl) (by rfl) (by rfl)
  obtain ⟨q1, is, rfl, hsq, hT, a, ns, hs, ht, hi, hz, hq⟩ := q
  obtain rfl : u = .ref q1 := r
  show wpAny _ _ (evalAll [do let v ← eval (.Lambda params body scope lpos) X.env; standAt pos; pure v]) _ _ s2
  have hfree : ∀ y ∈ scope.names, y.2 = .free → ∃ c, X.env.cells.lookup y.1 = some c := fun y hy e => by
    rcases L.free y hy e with k | k
    · exact I2.ok.has _ (.inl k)
    · exact I2.ok.has _ (.inr k)
  refine wpAny_evalAll_cons (wpAny_bind (lam_mk I2 TB hcode hmT hnm hu hT hdef hfree fun f c' pm ctv H3 s3 I3 eN dm T3 hf hfn hfr hco => wpAny_bind (wpAny_standAt (wpAny_pure (wpAny_evalAll_nil ?_)))))
  have kk := extN_kp eN
  obtain ⟨its, n, Ty, o, rv, hTy, ho, hc, hdt, hzz⟩ : ∃ (its : List Value) (n : Nat) (Ty : String) (o : Obj), Vals (is.map .int) its ∧ (Ty = "list" ∨ Ty = "tuple") ∧ s3.heap.get? q1 = some o ∧ o.cls = .type Ty ∧ o.data = .seq its.toArray n ∧ (is.map V.int).length ≤ sizeLine := by
    rcases hsq with hsq | hsq
    · obtain ⟨its, rv, ⟨o, n, ho, hc, _, hdt⟩, hz⟩ := I3.list (kk.sqL hsq)
      exact ⟨its, n, "list", o, rv, .inl rfl, ho, hc, hdt, hz⟩
    · obtain ⟨its, rv, ⟨o, ho, hc, n, hdt⟩, hz⟩ := I3.tuple (kk.sqT hsq)
      exact ⟨its, n, "tuple", o, rv, .inr rfl, ho, hc, hdt, hz⟩
  refine srtK_call L B hr hN hv hbind I3 T3 hf hco (fun Q' hQ => ?_) hs (kk.sqT ht) hi hz fun q hqn => hq H3 q eN dm T3 hqn
  refine wpAny_collect_seq q1 hTy ho hc hdt (fun h' k => ?_) (by rw [List.size_toArray, ← rv.length]; exact hzz)
  have := hQ its h' s3.toks rv k
  simpa using this
def rgI (a b : Int) : List Int := (List.range (b - a).toNat).map fun i => a + (i : Nat)
def tSrtKR (K : PySem.W.Frag) (T : List NdefX.NTab) (jd : Nat) (kf : Int → Int) (te : TE) : TE := fun σ H Q => te σ H fun v H1 => ∃ n : Int, v = .int n ∧ 0 ≤ n ∧ n ≤ 100000 ∧ kSrK K T jd kf σ (rgI 0 n) H1 Q
/-- .. of range(e) -/
theorem pe_srtKR {T : List NdefX.NTab} {jd : Nat} {x d : Str} {kf : Int → Int} {params : Arguments} {body e : Expr} {scope : Scope} {te : TE} {c P : Addr} {k : Nat} {p pos lpos kpos pr posr : Pos} (hg : Gl X "sorted") (hm : X.mg "sorted" = none) (hgr : Gl X "range") (hmr : X.mg "range" = none) (he : PE X e te) (L : LamK X.env.scope scope x d) (B : KyB body x d kf) (hr : Room k X.A)
    (hN : X.N[jd]? = some d) (hv : X.env.scope.names.lookup d = some .cell ∨ X.env.scope.names.lookup d = some .free)
    (hbind : ∀ (q : Str) (cl : List (Str × Addr)) (pm cv ctv v : Value), bindArgs (PySem.W.kla_fn "<lambda>" q params body scope cl pm cv ctv) ⟨[v], []⟩ = pure [(x, v)])
    (TB : LamX.TabB X.base X.mg c P) (hcode : X.env.code = .ref c) {nm : Nat → Nat → Str} (hmT : (P, nm) ∈ T) (hnm : nm lpos.line lpos.col = X.env.qual ++ "<lambda>") (hu : ∀ p ∈ T, p.1 = P → p.2 = nm) (hdef : defaultsOf params X.env = ([], []))
    (na : starEach [e] X.env = (false, eval e X.env) :: starEach [] X.env := by rfl) :
    PE X (.Call (.Name "sorted" p) [.Call (.Name "range" pr) [e] [] posr] [⟨some "key", .Lambda params body scope lpos, kpos⟩] pos) (tSrtKR X.K T jd kf te) := by
  refine ⟨fun pins s σ H Q I h => ?_⟩
  refine wpAny_Call_Name_kw (ld_blt I hg hm (by rfl) ?_)
  refine PyProof.Rows.callWith_kw (args_cons (Call_ (ld_blt I hgr hmr boot_range (PyProof.Rows.callWith_type1 (one_arg he I h (fun v s2 y H2 I2 r q => ?_) na) na))) (by rfl)) (by rfl) (by rfl) (by rfl) (by rfl)
  obtain ⟨n, rfl, h0, hb, hT, a, ns, hs, ht, hi, hz, hq⟩ := q
  obtain ⟨t, rfl⟩ := r
  refine call_range_1 (args_nil ?_)
  have kp0 : ∀ b u, s2.heap.get? b = some u → (s2.heap.push { cls := .type "range", data := .fields #[.int 0 s2.toks, .int n t, .int 1 (s2.toks + 1)] }).get? b = some u := fun b u e => Heap.get?_push_of_some _ e
  have I2' := ClX.pin_new (t' := s2.toks + 1 + 1) I2 kp0 (Nat.le_refl _) (Heap.get?_push_size _ rfl) (fun v z => nomatch z)
  show wpAny _ _ (evalAll [do let v ← eval (.Lambda params body scope lpos) X.env; standAt pos; pure v]) _ _ _
  have hfree : ∀ y ∈ scope.names, y.2 = .free → ∃ c, X.env.cells.lookup y.1 = some c := fun y hy e => by
    rcases L.free y hy e with k | k
    · exact I2.ok.has _ (.inl k)
    · exact I2.ok.has _ (.inr k)
  refine wpAny_evalAll_cons (wpAny_bind (lam_mk I2' TB hcode hmT hnm hu hT hdef hfree fun f c' pm ctv H3 s3 I3 eN dm T3 hf hfn hfr hco => wpAny_bind (wpAny_standAt (wpAny_pure (wpAny_evalAll_nil ?_)))))
  have kk := extN_kp eN
  refine thn (srtK_call L B hr hN hv hbind I3 T3 hf hco (fun Q' hQ => ?_) hs (kk.sqT ht) hi hz fun q hqn => hq H3 q eN dm T3 hqn) fun u s4 ⟨y, H4, I4, r4, q4⟩ => ⟨y, H4, ClX.unpin I4, r4, q4⟩
  have hR : IsRange s3.heap s2.heap.objs.size 0 n 1 s2.toks t (s2.toks + 1) := ClX.pin_at I3
  refine collect_range (n := (n - 0).toNat) (A := X.A.in1) hr.hd hR (small_one (by omega) (by omega) (by omega) (by omega)) (rangeSize_nat 0 n) (by omega) fun h' tk acc hk hacc => ?_
  refine hQ acc.toList h' tk ?_ hk
  have := vals_rg (a := 0) (b := n) hacc
  unfold rgI
  rw [List.map_map]
  exact this
end

/-! ### DL -/
section
variable {K : PySem.W.Frag} {T : List NdefX.NTab} {S : Addr → Bool} {As : Ads} {H H2 : Hp} {M : List MO}
theorem go_ext (e : LamX.ExtN H H2) (d : Dm H H2) : Go As H As H2 := ⟨⟨[], by simp⟩, fun a o h n => ⟨n, fun t => extN_kp e a o h t⟩, fun a h => by
  cases q : H a with
  | none => exact absurd q h
  | some u =>
    obtain ⟨u', e', _⟩ := d a u q
    rw [e']; exact fun z => nomatch z⟩
theorem rm_ext (m : RM K T S As H M) (e : LamX.ExtN H H2) (d : Dm H H2) (hT : NdefX.TabsN T H2) : RM K T S As H2 M := by
  have g : Go As H As H2 := go_ext e d
  have kk := extN_kp e
  refine ⟨m.len, m.nd, m.sS, fun a h => g.dm a (m.sd a h), fun i a mo e1 e2 => ?_, hT, fun a ha o ho => ?_⟩
  · have h0 := m.at_ i a mo e1 e2
    cases mo with
    | lst ds =>
      obtain ⟨z, vs, e, r⟩ := h0
      exact ⟨z, vs, kk _ _ e rfl, dpAll_kp g.kpm _ _ r⟩
    | dd fz kv =>
      obtain ⟨z, vs, e, r⟩ := h0
      exact ⟨z, vs, kk _ _ e (dkO_t _ _), dpAll_kp g.kpm _ _ r⟩
    | ho o => exact ⟨kk _ _ h0.1 h0.2.1, h0.2⟩
    | P φ =>
      obtain ⟨o', e, t, q⟩ := h0
      exact ⟨o', kk _ _ e t, t, q⟩
  · cases q : H a with
    | none => exact absurd q (m.sd a ha)
    | some u =>
      obtain ⟨u', e', t⟩ := d a u q
      rw [ho] at e'; cases e'
      rw [t]; exact m.st a ha u q
end
section
variable {c : Cn} {ρ : List Sl} {M : List MO} {te : TE}
def srtI (kf : Int → Int) (ns is : List Int) : List Int := is.mergeSort (dataLe false (keyOf kf ns))
/-- sorted(range(n), key=lambda ..) -/
theorem dl_srtKR {jd : Nat} {kf : Int → Int} {n : Int} {ns : List Int} (h : Dv c te ρ M (.int n)) (hs : ρ[jd]? = some (.d (.tuple (ns.map .int)))) (h0 : 0 ≤ n) (h1 : n ≤ 100000) (hn : n ≤ ns.length) : Dl c (tSrtKR c.K c.T jd kf te) ρ M ((srtI kf ns (rgI 0 n)).map .int) := fun S As σ H e m R k _ =>
  h S As σ H e m _ (fun s M' As' v H' ⟨e1, e2⟩ g m' r => by
    subst e1; subst e2
    cases r
    obtain ⟨w, hw, rw'⟩ := (e.go g).at_ jd _ hs (fun z => nomatch z)
    obtain ⟨a, rfl, ht⟩ : ∃ a, w = .ref a ∧ SqT c.K H' a (ns.map .int) := by
      cases rw' with
      | tup q1 q2 => rw [dp_ints q2] at q1; exact ⟨_, rfl, hmk_sqT q1⟩
    have hw0 : σ[jd]? = some (some (.ref a)) := hw
    have hlen : (rgI 0 n).length = n.toNat := by unfold rgI; rw [List.length_map, List.length_range, Int.sub_zero]
    refine ⟨n, rfl, h0, h1, m'.tb, a, ns, hw0, ht, fun i hi => ?_, by rw [hlen]; exact Nat.le_of_lt (Nat.lt_of_lt_of_le (show n.toNat < 100001 by omega) (by decide)), fun H2 q eN dm T2 hq => ?_⟩
    · obtain ⟨j, hj, rfl⟩ := List.mem_map.mp hi
      have := List.mem_range.mp hj
      omega
    · have m2 := rm_ext m' eN dm T2
      have g2 : Go As' H' As' H2 := go_ext eN dm
      exact own_new m2 hq (by rw [List.length_map, List.length_mergeSort, hlen]; exact Nat.le_of_lt (Nat.lt_of_lt_of_le (show n.toNat < 100001 by omega) (by decide))) (dp_ints_of _) ((k.go g).go g2) ⟨rfl, rfl⟩) KX.none
/-- sorted(xs, key=lambda ..), xs whole numbers -/
theorem dl_srtKL {jd : Nat} {kf : Int → Int} {is ns : List Int} {x : PyData} (h : Dv c te ρ M x) (hx : seqD x = some (is.map .int)) (hs : ρ[jd]? = some (.d (.tuple (ns.map .int)))) (hi : ∀ i ∈ is, 0 ≤ i ∧ i < ns.length) (hz : is.length ≤ sizeLine) : Dl c (tSrtKL c.K c.T jd kf te) ρ M ((srtI kf ns is).map .int) := fun S As σ H e m R k _ =>
  h S As σ H e m _ (fun s M' As' v H' ⟨e1, e2⟩ g m' r => by
    subst e1; subst e2
    obtain ⟨p, ws, rfl, h1, h2⟩ := dp_seq r hx
    have hws := dp_ints h2
    subst hws
    obtain ⟨w, hw, rw'⟩ := (e.go g).at_ jd _ hs (fun z => nomatch z)
    obtain ⟨a, rfl, ht⟩ : ∃ a, w = .ref a ∧ SqT c.K H' a (ns.map .int) := by
      cases rw' with
      | tup q1 q2 => rw [dp_ints q2] at q1; exact ⟨_, rfl, hmk_sqT q1⟩
    refine ⟨p, is, rfl, h1.elim (fun z => .inl (hmk_sqL z)) (fun z => .inr (hmk_sqT z)), m'.tb, a, ns, hw, ht, hi, hz, fun H2 q eN dm T2 hq => ?_⟩
    have m2 := rm_ext m' eN dm T2
    have g2 : Go As' H' As' H2 := go_ext eN dm
    exact own_new m2 hq (by rw [List.length_map, List.length_mergeSort]; exact hz) (dp_ints_of _) ((k.go g).go g2) ⟨rfl, rfl⟩) KX.none
end
/-! ### a def whose code object is asked for (a lambda is made in it) -/
section
variable {P : Program} {w : World} {K : PySem.W.Frag} {mg : Str → Option Value} {base : Heap} {T : List NdefX.NTab}
theorem fn_ok0C {x qual : Str} {st : Stmt} {f : Addr} {fd : FuncData} {N ps : List Str} {k : Nat} {W : Wd} (F : Fun K x qual st f fd) (S : FnScope N ps (defScope st)) (len : ∀ ρ M Q X, W ρ M Q X → ρ.length = ps.length) (hN : ps.length ≤ N.length)
    (hbody : ∀ (cdv : Value), cdv = fd.code → ∀ (A : Around) (outer : List Env) (s : Shared) (H : Hp) (E : XK), Room k (A.deeper (envOfC qual (defScope st) s.heap.objs.size f cdv)) →
      ∃ t, PSs (cxOf CX0 P w K mg base N qual (defScope st) f cdv A outer s H E).nox (defBody st) t ∧
        ∀ ρ M Q X, W ρ M Q X → EX ⟨K, T, fun _ => E⟩ t (ρ ++ unS (N.length - ρ.length)) M { nx := fun _ M' => Q (.d .none) M', rt := Q, xp := fun C _ M' => X C M' }) :
    FnOk P w K mg base CX0 (k + 1) f fd ps (spW K T W) := by
  obtain ⟨oc, od, kV, doc, pm, an, cdv, ct, osl, rfl, lk, hcd⟩ := F.ex
  refine fn_of lk hcd S (fun vs H Q E h => ?_) fun A outer s H vs Q E hr h => ?_
  · obtain ⟨S, As, ρ, M, Q0, X0, r, m, w, _⟩ := h
    rw [slrs_len r, len _ _ _ _ w]
  · obtain ⟨t, ht, ht'⟩ := hbody cdv rfl A outer s H E hr
    refine ⟨t, ht.nox, ?_⟩
    obtain ⟨S, As, ρ, M, Q0, X0, r, m, w, kq, kx⟩ := h
    have hl := len _ _ _ _ w
    refine ht' ρ M _ _ w S As _ H (re_start r (by rw [hl]; exact hN)) m _ (fun ρ' M' As' σ' H' q g e m' => ?_) (fun s M' As' v H' q g m' r => ?_) (fun _ _ _ _ _ q => q.elim) (fun _ _ _ _ _ q => q.elim) (fun C ρ' M' As' σ' H' q g e m' => ?_)
    · exact kq _ _ q As' .non H' g m' .non
    · exact kq _ _ q As' v H' g m' r
    · exact kx _ _ q As' H' g m'
theorem fn_okC {x qual : Str} {st : Stmt} {f : Addr} {fd : FuncData} {N ps : List Str} {k : Nat} {W : Wd} (F : Fun K x qual st f fd) (S : FnScope N ps (defScope st)) (len : ∀ ρ M Q X, W ρ M Q X → ρ.length = ps.length) (hN : ps.length ≤ N.length)
    (hbody : ∀ (cdv : Value), cdv = fd.code → ∀ (A : Around) (outer : List Env) (s : Shared) (H : Hp) (E : XK), Room k (A.deeper (envOfC qual (defScope st) s.heap.objs.size f cdv)) →
      ∃ t, PSs (cxOf (L2N.CX P w) P w K mg base N qual (defScope st) f cdv A outer s H E) (defBody st) t ∧
        ∀ ρ M Q X, W ρ M Q X → EX ⟨K, T, fun _ => E⟩ t (ρ ++ unS (N.length - ρ.length)) M { nx := fun _ M' => Q (.d .none) M', rt := Q, xp := fun C _ M' => X C M' }) :
    FnOk P w K mg base (L2N.CX P w) (k + 1) f fd ps (spW K T W) := by
  obtain ⟨oc, od, kV, doc, pm, an, cdv, ct, osl, rfl, lk, hcd⟩ := F.ex
  refine fn_of lk hcd S (fun vs H Q E h => ?_) fun A outer s H vs Q E hr h => ?_
  · obtain ⟨S, As, ρ, M, Q0, X0, r, m, w, _⟩ := h
    rw [slrs_len r, len _ _ _ _ w]
  · obtain ⟨t, ht, ht'⟩ := hbody cdv rfl A outer s H E hr
    refine ⟨t, ht, ?_⟩
    obtain ⟨S, As, ρ, M, Q0, X0, r, m, w, kq, kx⟩ := h
    have hl := len _ _ _ _ w
    refine ht' ρ M _ _ w S As _ H (re_start r (by rw [hl]; exact hN)) m _ (fun ρ' M' As' σ' H' q g e m' => ?_) (fun s M' As' v H' q g m' r => ?_) (fun _ _ _ _ _ q => q.elim) (fun _ _ _ _ _ q => q.elim) (fun C ρ' M' As' σ' H' q g e m' => ?_)
    · exact kq _ _ q As' .non H' g m' .non
    · exact kq _ _ q As' v H' g m' r
    · exact kx _ _ q As' H' g m'
/-- the law's promise, the tables empty at the start -/
theorem law_spT {W : Wd} {n : Nat} (hW : ∀ ns : List Int, ns.length ≤ n → ∀ Q : QS, (∀ M', Q (.d (.bool true)) M') → W [.d (.list (ns.map .int))] [] Q X0) {H : Hp} {a : Addr} {ns : List Int} (hl : ns.length ≤ n) (hS : SqL K H a (ns.map V.int)) (hT : ∀ p ∈ T, H p.1 = some (.tbl #[])) :
    spW K T W [.ref a] H (fun v _ => v = .bl true) fun _ _ _ => False := by
  refine ⟨fun _ => false, [], [.d (.list (ns.map .int))], [], fun s _ => s = .d (.bool true), X0, .cons ?_ .nil, ⟨rfl, List.nodup_nil, fun _ h => absurd h (by simp), fun _ h => (nomatch h), fun i _ _ h => (by simp at h), fun p hp => NdefX.TabN.nil (hT p hp), fun _ h => nomatch h⟩, hW ns hl _ fun _ => rfl, fun s M' e As' v H' g m r => ?_, fun _ _ e => e.elim⟩
  · show Dp K (hmk (fun _ => false) [] H) _ _
    have : hmk (fun _ => false) [] H = H := by funext a; unfold hmk; simp
    rw [this]
    exact .lst hS (dp_ints_of ns)
  · subst e
    cases r
    rfl
end
def lamKB (sc scope : Scope) (x d : Str) : Bool :=
  decide (scope.kind = .function) && !scope.isCoroutine && !scope.isGenerator && (scope.names.all fun y => !decide (y.2 = .cell)) && decide (scope.names.lookup x = some .local) && decide (scope.names.lookup d = some .free) &&
  scope.names.all fun y => !decide (y.2 = .free) || decide (sc.names.lookup y.1 = some .cell) || decide (sc.names.lookup y.1 = some .free)
theorem lamK_by {sc scope : Scope} {x d : Str} (h : lamKB sc scope x d = true) : LamK sc scope x d := by
  unfold lamKB at h
  simp only [Bool.and_eq_true, Bool.or_eq_true, Bool.not_eq_true', decide_eq_true_eq, decide_eq_false_iff_not, List.all_eq_true] at h
  obtain ⟨⟨⟨⟨⟨⟨h1, h2⟩, h3⟩, h4⟩, h5⟩, h6⟩, h7⟩ := h
  refine ⟨h1, h2, h3, h4, h5, h6, fun y hy e => ?_⟩
  rcases h7 y hy with (z | z) | z
  · exact absurd e z
  · exact .inl z
  · exact .inr z
end DL

set_option Elab.async false
set_option linter.all false
set_option autoImplicit false
set_option maxRecDepth 100000
set_option maxHeartbeats 2000000
/-! DL: the end of a law with tables of code objects. -/
namespace DL
open PySem PySem.Spec PyProof.Rows L2
theorem lcode_of {K : PySem.W.Frag} {x qual : Str} {st : Stmt} {p : He.Defn} {fd : FuncData} (F : Fun K x qual st (He.fAd K p) fd) : fd.code = .ref (He.codeOf K p) := by
  obtain ⟨oc, od, kV, doc, pm, an, cdv, ct, osl, rfl, lk, hcd⟩ := F.ex
  obtain ⟨c, rfl⟩ := He.codeIn_ref hcd
  rw [He.codeOf_eq lk rfl]
theorem lu_of : ∀ {T : List NdefX.NTab} {P : Addr} {q : Nat → Nat → Str}, (T.map (·.1)).Nodup → (P, q) ∈ T → ∀ p ∈ T, p.1 = P → p.2 = q
  | [], _, _, _, hm, _, _, _ => absurd hm (by simp)
  | t :: T, P, q, hn, hm, p, hp, e => by
    rw [List.map_cons, List.nodup_cons] at hn
    rcases List.mem_cons.mp hp with z | z <;> rcases List.mem_cons.mp hm with y | y
    · rw [z, ← y]
    · refine absurd (List.mem_map.mpr ⟨_, y, ?_⟩) hn.1
      rw [← z]; exact e.symm
    · refine absurd (List.mem_map.mpr ⟨_, z, ?_⟩) hn.1
      rw [← y]; exact e
    · exact lu_of hn.2 y p z e
/-- the tables told by the hook -/
theorem cs_of {fa : List He.Fa} {fn : List He.DefD} {ts : List He.Tab} {tf : List He.Defn} {ex : PySem.W.Frag → Bool} {w : World} {h : Heap} {K : PySem.W.Frag} (KX : K.In h) (c : He.SaysX fa fn ts tf ex w h K) :
    (∀ p ∈ tf.map (He.cT K), h.get? p.2 = some { cls := .none, data := .fields #[] }) ∧ (∀ p ∈ tf.map (He.cT K), K.lookup p.2 = none) ∧ ∀ p ∈ tf.map (He.cT K), PySem.W.CodeHd h p.1 p.2 := by
  refine ⟨fun p hp => ?_, fun p hp => ?_, fun p hp => ?_⟩ <;> obtain ⟨q, hq, rfl⟩ := List.mem_map.mp hp
  · exact c.empty q hq
  · exact c.out q hq
  · exact PySem.W.codeHd_of_K KX (c.hd q hq)
end DL

set_option Elab.async false
set_option linter.all false
set_option autoImplicit false
set_option maxRecDepth 100000
set_option maxHeartbeats 2000000
/-! DL: dicts whose keys are ints, all values True. -/
namespace DL
open PySem PySem.Spec PyProof.Rows L2 PySem.W
def entI (i : Int) : Key × V := (Sum.inl i, .bl true)
def iD (ks : List Int) : HO := .dK (ks.map entI)
def putI (ks : List Int) (i : Int) : List Int := if i ∈ ks then ks else ks ++ [i]
theorem any_iD (ks : List Int) (i : Int) : ((ks.map entI).any fun kv => decide (kv.1 = Sum.inl i)) = decide (i ∈ ks) := by
  induction ks with
  | nil => simp
  | cons a ks ih =>
    rw [List.map_cons, List.any_cons, ih]
    by_cases h : i = a
    · subst h; simp [entI]
    · have h' : ¬ (entI a).1 = Sum.inl i := fun z => h (Sum.inl.inj z).symm
      simp [h, h']
theorem putK_iD (ks : List Int) (i : Int) : putK (ks.map entI) (Sum.inl i) (.bl true) = (putI ks i).map entI := by
  unfold putK putI
  rw [any_iD]
  by_cases h : i ∈ ks
  · rw [if_pos (by simp [h]), if_pos h, List.map_map]
    apply List.map_congr_left
    intro a _
    show (if (entI a).1 = Sum.inl i then ((entI a).1, V.bl true) else entI a) = entI a
    split <;> rfl
  · rw [if_neg (by simp [h]), if_neg h, List.map_append]; rfl
theorem valV_iD (ks : List Int) (i : Int) : (valV (ks.map entI) (Sum.inl i)).isSome = decide (i ∈ ks) := by
  unfold valV
  rw [Option.isSome_map, ← any_iD, Bool.eq_iff_iff, List.find?_isSome, List.any_eq_true]
def rInK (neg : Bool) : R2 := fun x y H Q => ∃ (a : Addr) (ks : List Int) (i : Int), x = .int i ∧ y = .ref a ∧ H a = some (iD ks) ∧ Q (.bl (neg != decide (i ∈ ks))) H
section
variable {X : Cx}
theorem op_inK (hu : X.A.units + 1 < cLine) : OpR X (compareOp .In) (rInK false) := by
  intro pins s σ H x y v u Q I rx ry h
  obtain ⟨a, ks, i, rfl, rfl, hd, q⟩ := h
  cases ry
  refine d_in hu I (DGet.k (k := .inl i) hd) rx fun s' I' => ?_
  rw [valV_iD]
  exact ⟨.bl _, H, I', rfl, by simpa using q⟩
theorem op_notInK (hu : X.A.units + 1 < cLine) : OpR X (compareOp .NotIn) (rInK true) := by
  intro pins s σ H x y v u Q I rx ry h
  obtain ⟨a, ks, i, rfl, rfl, hd, q⟩ := h
  cases ry
  refine d_notIn hu I (DGet.k (k := .inl i) hd) rx fun s' I' => ?_
  rw [valV_iD]
  exact ⟨.bl _, H, I', rfl, by simpa using q⟩
def rSrtDI : List V → Hp → VK → Prop := fun xs H Q => ∃ (a : Addr) (ks : List Int), xs = [.ref a] ∧ H a = some (iD ks) ∧ ks.length < 64 ∧ ∀ p : Addr, H p = none → Q (.ref p) (upd H p (.lst ((isort ks).map V.int)))
theorem isort_eq {xs ys : List Int} (p : ys.Perm xs) (h : ys.Pairwise (· ≤ ·)) : ys = isort xs := by
  have h2 : (isort xs).Pairwise (fun a b => a ≤ b) := by
    have := List.pairwise_mergeSort (le := fun a b : Int => decide (a ≤ b)) (fun a b c h1 h2 => by simp at *; omega) (fun a b => by simp; omega) xs
    exact this.imp fun h => by simpa using h
  exact (p.trans (List.mergeSort_perm xs _).symm).eq_of_pairwise (fun a b _ _ h h' => Int.le_antisymm h h') h h2
theorem call_srtDI (hc : X.calm = true) : CallR X (.builtin "sorted") rSrtDI := by
  intro pins s σ H xs us Q I r h
  obtain ⟨a, ks, rfl, hd, hl, q⟩ := h
  refine call_sortedDI hc pins s σ H _ us Q I r ⟨a, ks.map entI, ks, rfl, Rd.of hd, by rw [List.map_map]; rfl, hl, fun ys p hp hs hn => ?_⟩
  rw [isort_eq hp hs]
  exact q p hn
end
section
variable {c : Cn} {S : Addr → Bool} {As As1 As2 : Ads} {H H1 : Hp} {M M1 M2 : List MO} {ρ : List Sl} {σ : L2.St} {P P' : Po} {ta tb te tl : TE} {tt tu : TT} {t u : TS} {s : Sl} {v w : V} {Q Q' : QS} {X : XP} {R : VK}
theorem ev_dnewK (q : Q (.m M.length) (M ++ [.ho (iD [])])) : EV c tDNewK ρ M Q X := fun S As σ H e m R k kx => fun p hp => by
  have g := go_own (o := .dK []) m hp
  exact k _ _ _ _ _ q g (m.own hp ⟨upd_same, rfl, rfl⟩) ⟨p, by rw [← m.len]; simp, rfl⟩
theorem dl_srtDI {n j : Nat} {ks : List Int} (hx : ρ[n]? = some (.m j)) (hj : M[j]? = some (.ho (iD ks))) (hl : ks.length < 64) : Dl c (tCB rSrtDI (tCons (tVar n) tNil)) ρ M ((isort ks).map .int) :=
  ev_cb (ea_cons (ev_var hx (fun z => nomatch z) (ea_nil fun S As H vs hv m R k => by
    obtain ⟨v, rfl, r⟩ := slrs1 hv
    obtain ⟨a, ea, rfl⟩ := r
    obtain ⟨b, eb, hH, _, _⟩ := m.ex hj
    rw [ea] at eb; cases eb
    refine ⟨a, ks, rfl, hH, hl, fun p hp => ?_⟩
    refine own_new m hp ?_ (dp_ints_of _) k ⟨rfl, rfl⟩
    rw [List.length_map]
    unfold isort
    rw [List.length_mergeSort]
    exact Nat.le_trans (Nat.le_of_lt hl) (by decide))))
theorem dv_inK {neg : Bool} {n j : Nat} {ks : List Int} {i : Int} (ha : Dv c ta ρ M (.int i)) (hx : ρ[n]? = some (.m j)) (hj : M[j]? = some (.ho (iD ks))) : Dv c (tOp (rInK neg) ta (tVar n)) ρ M (.bool (neg != decide (i ∈ ks))) :=
  ev_op (ev_dv ha (ev_var hx (fun z => nomatch z) fun S As H v w hv hw m R k => by
    cases hv
    obtain ⟨a, ea, rfl⟩ := hw
    obtain ⟨a', ea', hH, _, _⟩ := m.ex hj
    rw [ea] at ea'; cases ea'
    exact ⟨a, ks, i, rfl, rfl, hH, k.here ⟨rfl, rfl⟩ m (.bl _)⟩))
/-- d[i] = True -/
theorem ex_setI {n jd : Nat} (hx : ρ[n]? = some (.m jd)) (h : EV c te ρ M (fun s M1 => s = .d (.bool true) ∧ EV c tl ρ M1 (fun s2 M2 => ∃ ks i, s2 = .d (.int i) ∧ M2[jd]? = some (.ho (iD ks)) ∧ ks.length < 100000 ∧ P.nx ρ (M2.set jd (.ho (iD (putI ks i))))) (fun C M' => P.xp C ρ M')) (fun C M' => P.xp C ρ M')) :
    EX c (tAsg te (gSub (tVar n) tl rSetD)) ρ M P := fun S As σ H e m D k1 k2 k3 k4 k5 =>
  h S As σ H e m _ (fun s M1 As1 v H1 ⟨es, q1⟩ g1 m1 r1 => by
    subst es
    cases r1
    obtain ⟨u, e1, r⟩ := (e.go g1).at_ n _ hx (fun z => nomatch z)
    obtain ⟨a, ea, rfl⟩ := r
    refine ⟨.ref a, e1, q1 S As1 σ H1 (e.go g1) m1 _ (fun s2 M2 As2 w H2 ⟨ks, i, hs, hj, hl, qn⟩ g2 m2 r2 => ?_) ((k5.at_ e).go g1)⟩
    subst hs
    cases r2
    obtain ⟨b, eb, hH, _, _⟩ := m2.ex hj
    rw [g2.ix ea] at eb; cases eb
    refine ⟨a, _, rfl, DPut.k (kvs := ks.map entI) (k := .inl i) hH (by rw [List.length_map]; exact Nat.lt_of_lt_of_le hl (by decide)), ?_⟩
    rw [putK_iD]
    have g4 := go_mut (o := iD (putI ks i)) m2 (g2.ix ea) hH rfl (fun φ z => nomatch z)
    exact k1 _ _ As2 _ _ qn ((g1.trans g2).trans g4) (((e.go g1).go g2).go g4) (m2.mut (g2.ix ea) hH rfl (fun φ z => nomatch z) ⟨upd_same, rfl, rfl⟩)) (k5.at_ e)
end
end DL

set_option Elab.async false
set_option linter.all false
set_option autoImplicit false
set_option maxRecDepth 100000
set_option maxHeartbeats 2000000
/-! DL: own objects given up in an expression, tuple(..) of drawn lists, try with a return. -/
namespace DL
open PySem PySem.Spec PyProof.Rows L2 PySem.W
section
variable {c : Cn} {S : Addr → Bool} {As As1 As2 : Ads} {H H1 : Hp} {M M1 M2 : List MO} {ρ : List Sl} {σ : L2.St} {P P' : Po} {ta tb te : TE} {tt tu : TT} {t u : TS} {s : Sl} {v w : V} {Q Q' : QS} {X : XP} {R : VK}
theorem ev_lose (h : EV c te ρ M (fun s M' => ∃ (r : List MO) (i : Nat) (mo : MO), M' = M ++ r ∧ s = .m (M.length + i) ∧ r[i]? = some mo ∧ Q (.m M.length) (M ++ [mo])) X) : EV c te ρ M Q X := fun S As σ H e1 m R k kx => by
  refine h S As σ H e1 m R (fun s M' As' v H' q g m' r => ?_) kx
  obtain ⟨rM, i, mo, rfl, rfl, hi, q⟩ := q
  obtain ⟨rA, eA⟩ := g.pre
  subst eA
  have nd := List.nodup_append.mp m'.nd
  obtain ⟨p, ep, rfl⟩ := r
  rw [← m.len, List.getElem?_append_right (by omega), Nat.add_sub_cancel_left] at ep
  have hs : ∀ a ∈ As ++ [p], a ∈ As ++ rA := fun a ha => by
    rcases List.mem_append.mp ha with z | z
    · exact List.mem_append_left _ z
    · simp at z; subst z; exact List.mem_append_right _ (List.mem_of_getElem? ep)
  have hp : p ∉ As := fun z => nd.2.2 p z p (List.mem_of_getElem? ep) rfl
  have m2 : RM c.K c.T S (As ++ [p]) H' (M ++ [mo]) := m'.sub hs (by
      rw [List.nodup_append]
      exact ⟨nd.1, by simp, fun a ha b hb => by simp at hb; subst hb; exact fun z => hp (z ▸ ha)⟩) (by rw [List.length_append, List.length_append, m.len]; rfl) (fun j a mo' a1 a2 => by
      rcases mem_app_ix a1 with a1 | ⟨ej, rfl⟩
      · have hj := (List.getElem?_eq_some_iff.mp a1).1
        refine ⟨j, by rw [List.getElem?_append_left hj]; exact a1, ?_⟩
        rw [List.getElem?_append_left (by rw [← m.len]; exact hj)] at a2 ⊢
        exact a2
      · rw [List.getElem?_append_right (by rw [ej, m.len]; exact Nat.le_refl _)] at a2
        have : j - M.length = 0 := by rw [ej, m.len]; omega
        rw [this] at a2
        simp at a2; subst a2
        refine ⟨As.length + i, by rw [List.getElem?_append_right (by omega), Nat.add_sub_cancel_left]; exact ep, ?_⟩
        rw [m.len, List.getElem?_append_right (by omega), Nat.add_sub_cancel_left]
        exact hi)
  exact k (.m M.length) _ (As ++ [p]) _ H' q (g.sub hs) m2 ⟨p, by rw [← m.len]; simp, rfl⟩
/-- garbage is given up, the value is data -/
theorem ev_loseD (h : EV c te ρ M (fun s M' => ∃ (r : List MO) (d : PyData), M' = M ++ r ∧ s = .d d ∧ Q (.d d) M) X) : EV c te ρ M Q X := fun S As σ H e1 m R k kx => by
  refine h S As σ H e1 m R (fun s M' As' v H' q g m' r => ?_) kx
  obtain ⟨rM, d, rfl, rfl, q⟩ := q
  obtain ⟨rA, eA⟩ := g.pre
  subst eA
  have nd := List.nodup_append.mp m'.nd
  have hs : ∀ a ∈ As ++ [], a ∈ As ++ rA := fun a ha => by rw [List.append_nil] at ha; exact List.mem_append_left _ ha
  have m2 : RM c.K c.T S (As ++ []) H' M := m'.sub hs (by rw [List.append_nil]; exact nd.1) (by rw [List.append_nil, m.len]) (fun i a mo a1 a2 => ⟨i, by
    rw [List.append_nil] at a1
    rw [List.getElem?_append_left (List.getElem?_eq_some_iff.mp a1).1]; exact a1, by
    rw [List.getElem?_append_left (List.getElem?_eq_some_iff.mp a2).1]; exact a2⟩)
  exact k (.d d) M (As ++ []) v H' q (g.sub hs) m2 (dp_kp (kp_sub hs) _ _ r)
/-- a new list + an own list -/
theorem dl_catM {n j : Nat} {ds es : List PyData} (ha : Dl c ta ρ M ds) (hn : ρ[n]? = some (.m j)) (hj : M[j]? = some (.lst es)) (hz : ds.length + es.length ≤ 100000) : Dl c (tOp rCat ta (tVar n)) ρ M (ds ++ es) :=
  ev_lose (ev_op (ev_dl ha (ev_var hn (fun z => nomatch z) (rb_cat (ds := ds) (es := es) (by simp) (by rw [List.getElem?_append_left (List.getElem?_eq_some_iff.mp hj).1]; exact hj) hz ⟨[.lst ds, .lst (ds ++ es)], 1, .lst (ds ++ es), by simp, by simp, rfl, rfl, rfl⟩))))
theorem ev_tupleL (h : EV c ta ρ M (fun s M1 => ∃ ds, s = .d (.list ds) ∧ Q (.d (.tuple ds)) M1) X) : EV c (tCB (fun xs H Q => ∃ p ys, xs = [.ref p] ∧ ((SqL c.K H p ys ∧ ∀ l, H l = none → Q (.ref l) (upd H l (.tup ys))) ∨ (SqT c.K H p ys ∧ Q (.ref p) H))) (tCons ta tNil)) ρ M Q X :=
  ev_cb (ea_cons (EV.imp h (fun s M1 ⟨ds, es, q⟩ => by
    subst es
    exact ea_nil fun S As H vs hv m R k => by
      obtain ⟨v, rfl, r⟩ := slrs1 hv
      obtain ⟨a, ws, rfl, h1, h2⟩ := dp_lst r
      exact ⟨a, ws, rfl, .inl ⟨hmk_sqL h1, fun l hl => new_tup m hl h2 k q⟩⟩) fun _ _ z => z))
end
section
variable {c : Cn} {M : List MO} {ρ : List Sl} {P : Po}
theorem ex_tryR {Fc : Value} {i : Nat} {sp : Sp} {ta : TA} {ts : Addr → Value → Option Addr → TS} {Wout : WX} {Xb : XPs}
    (hb : ∀ W : WX, EX ⟨c.K, c.T, fun σ => WE W σ⟩ (tRet (tCallS sp (WE W) ta)) ρ M { P with xp := Xb })
    (hs : ∀ C ρ' M', Xb C ρ' M' → PySem.W.exmOne c.K (.ref C) Fc = some true ∧ ∀ a, EX c (ts a (.ref C) none) (ρ'.set i (.v (.ref a))) M' { P with nx := fun ρ2 M2 => P.nx (ρ2.set i .un) M2, bk := fun ρ2 M2 => P.bk (ρ2.set i .un) M2, ct := fun ρ2 M2 => P.ct (ρ2.set i .un) M2 }) :
    EX c (fun D σ H => tRet (tCallS sp (WE (wAs c.K Fc i ts Wout D)) ta) D σ H) ρ M P := ex_try (tb := fun W => tRet (tCallS sp (WE W) ta)) hb hs
end
end DL

set_option Elab.async false
set_option linter.all false
set_option autoImplicit false
set_option maxRecDepth 100000
set_option maxHeartbeats 4000000
/-! DL: tuple[::-1], tuple * n for n >= 1, texts in tuples, pairs, written tuples of texts. -/
namespace L2
open PySem PySem.Spec PyProof.Rows
section
variable {prog : Program} {w : World} {A : Around} {E : Value → Shared → Prop} {s : Shared}
theorem adjust_rev (n : Nat) : Builtin.Slice.sliceAdjust none none (-1) (n : Int) = ((n : Int) - 1, -1) := by
  unfold Builtin.Slice.sliceAdjust
  rfl
theorem places_rev (n : Nat) : Builtin.Slice.slicePlaces ((n : Int) - 1) (-1) (-1) = n := by
  unfold Builtin.Slice.slicePlaces
  have h1 : ¬ ((-1 : Int) > 0) := by omega
  simp only [h1, if_false]
  have e : (- -1 : Int) = 1 := by decide
  simp only [e, Int.ediv_one]
  split <;> omega
theorem sliceApplied_rev {sl : Addr} {vl vu vs : Value} {n : Nat} {Q : Int × Int × Nat → Shared → Prop} (hs : s.heap.IsSliceOf sl vl vu vs) (pl : IsPart vl none) (pu : IsPart vu none) (ps : IsPart vs (some (-1)))
    (h : Q ((n : Int) - 1, -1, n) s) : wpAny (model prog w) A (Builtin.Slice.sliceApplied (.ref sl) (pure (n : Int))) Q E s := by
  obtain ⟨os, hos, hcs, hds⟩ := id hs
  unfold Builtin.Slice.sliceApplied Builtin.Slice.sliceFields
  refine wpAny_bind (wpAny_bind (wpAny_field hos hds (x := vl) rfl (wpAny_bind (wpAny_field hos hds (x := vu) rfl (wpAny_bind (wpAny_field hos hds (x := vs) rfl (wpAny_pure ?_)))))))
  refine wpAny_bind (HT.slicePart_ ps ?_)
  show wpAny _ _ (if ((-1 : Int) == 0) = true then _ else _) _ _ s
  rw [if_neg (by decide)]
  refine wpAny_bind (HT.slicePart_ pl (wpAny_bind (HT.slicePart_ pu (wpAny_bind (wpAny_pure ?_)))))
  show wpAny _ _ (match Builtin.Slice.sliceAdjust none none (-1) (n : Int) with | (lo, hi) => pure (lo, (-1 : Int), Builtin.Slice.slicePlaces lo hi (-1))) _ _ s
  rw [adjust_rev n]
  show wpAny _ _ (pure ((n : Int) - 1, (-1 : Int), Builtin.Slice.slicePlaces ((n : Int) - 1) (-1) (-1))) _ _ s
  rw [places_rev]
  exact wpAny_pure h
theorem fm_congr {α β : Type} {f g : α → Option β} : ∀ {l : List α}, (∀ a ∈ l, f a = g a) → l.filterMap f = l.filterMap g
  | [], _ => rfl
  | a :: l, h => by
    have ih := fm_congr (f := f) (g := g) (l := l) fun b hb => h b (List.mem_cons_of_mem _ hb)
    rw [List.filterMap_cons, List.filterMap_cons, h a List.mem_cons_self, ih]
theorem pick_rev (xs : Array Value) : ((List.range xs.size).filterMap fun (m : Nat) => xs[(((xs.size : Nat) : Int) - 1 + (m : Int) * (-1)).toNat]?).toArray = xs.toList.reverse.toArray := by
  have e : (List.range xs.size).filterMap (fun (m : Nat) => xs[(((xs.size : Nat) : Int) - 1 + (m : Int) * (-1)).toNat]?) = ((List.range xs.size).map fun k => xs.size - 1 - k).filterMap (xs[·]?) := by
    rw [List.filterMap_map]
    refine fm_congr fun m hm => ?_
    have hm := List.mem_range.mp hm
    show _ = xs[xs.size - 1 - m]?
    have : (((xs.size : Nat) : Int) - 1 + (m : Int) * (-1)).toNat = xs.size - 1 - m := by omega
    rw [this]
  rw [e, PySem.W.krv_range, List.filterMap_reverse, PySem.W.krv_all]
theorem getItem_tuple_rev {t sl : Addr} {items : Array Value} {vl vu vs : Value} {Q : Value → Shared → Prop} (ht : IsTup s.heap t items) (hs : s.heap.IsSliceOf sl vl vu vs) (pl : IsPart vl none) (pu : IsPart vu none) (ps : IsPart vs (some (-1)))
    (h : Q (.ref s.heap.objs.size) { s with heap := s.heap.push { cls := .type "tuple", data := .seq items.toList.reverse.toArray } })
    (hsz : items.size ≤ sizeLine) : wpAny (model prog w) A (getItem (.ref t) (.ref sl)) Q E s := by
  have htake : sizeOk (.seq items.toList.reverse.toArray) := by
    show items.toList.reverse.toArray.size ≤ sizeLine
    rw [List.size_toArray, List.length_reverse, Array.length_toList]
    exact hsz
  obtain ⟨os, hos, hcs, hds⟩ := id hs
  have hTs : s.TypeIs (.ref sl) "slice" := ⟨os, hos, hcs⟩
  unfold getItem
  try with_reducible refine wpAny_holding ?_
  first | refine wpAny_bind (wpAny_pure ?_) | skip
  refine wpAny_bind (wpAny_sequenceKey ht.typeIs (by decide) ?_)
  refine wpAny_bind (wpAny_callSpecial?_slot (name := Str.ofString "__getitem__") ht.typeIs PyProof.Rows.slot_tuple_getitem
    (wpAny_call_entry PyProof.Rows.slot_tuple_getitem ht.typeIs entry_tuple_getitem ?_ (args_tuple_getitem _ _)))
  show wpAny _ _ (Builtin.Tuple.tupleItemsOf (.ref t) >>= _) _ _ s
  refine wpAny_bind (tupleItemsOf_ ht ?_)
  refine wpAny_bind (wpAny_typeOf hTs ?_)
  rw [if_pos (by decide)]
  refine wpAny_bind (sliceApplied_rev hs pl pu ps ?_)
  have hno : ¬ (((((items.size : Nat) : Int) - 1) == 0 && (-1 : Int) == 1 && items.size == items.size) = true) := by
    intro q
    rw [Bool.and_eq_true, Bool.and_eq_true] at q
    exact absurd q.1.2 (by decide)
  show wpAny _ _ (if ((((items.size : Nat) : Int) - 1) == 0 && (-1 : Int) == 1 && items.size == items.size) = true then _ else _) _ _ s
  rw [if_neg hno, pick_rev]
  first
    | exact wpAny_bind (m := Builtin.Tuple.tupleExact _) (wpAny_newObj_type (wpAny_pure ⟨_, rfl, wpAny_pure h⟩) htake)
    | exact wpAny_bind (m := Builtin.Tuple.tupleExact _) (wpAny_newObj_type (wpAny_bind (wpAny_pure (wpAny_pure ⟨_, rfl, wpAny_pure h⟩))) htake)
    | exact wpAny_bind (wpAny_bind (m := Builtin.Tuple.tupleExact _) (wpAny_newObj_type (wpAny_pure (wpAny_pure ⟨_, rfl, wpAny_pure h⟩)) htake))
    | exact wpAny_bind (wpAny_bind (m := Builtin.Tuple.tupleExact _) (wpAny_newObj_type (wpAny_pure ⟨_, rfl, wpAny_pure h⟩) htake))
theorem tuple_mul1 (l : Addr) (items : Array Value) (n : Nat) (sl : Array (Option Value)) (dd : Option Addr) (u : Tok) :
    Meets (Builtin.«tuple.__mul__» ⟨[.ref l, .int 1 u], []⟩) (fun _ R s => s.heap.get? l = some { cls := .type "tuple", dict := dd, data := .seq items n, slots := sl } ∧ R (.ok (.ret (.ref l))) s) :=
  .of_wp fun prog w A R s h => by
    obtain ⟨hp, g, d, tk, os⟩ := s
    obtain ⟨hl, h⟩ := h
    have f1 := AutoSeq1.idx_int
    have c0 : (decide ((1 : Int) < -(2 ^ 63)) || decide ((1 : Int) ≥ 2 ^ 63)) = false := by decide
    have c1 : (items.isEmpty || (1 : Int) == 1) = true := by simp
    wp_walk using wpAny_loadPart' hl
    repeat (first
      | (refine wpAny_ite_false (decide_eq_false (by rw [c0]; exact Bool.false_ne_true)) ?_; wp_walk using wpAny_loadPart' hl)
      | (refine wpAny_ite_true (decide_eq_true (by rw [c1])) ?_; wp_walk using wpAny_loadPart' hl))
    exact ⟨_, rfl, h⟩
end
def rRepT1 (K : PySem.W.Frag) : R2 := fun x y H Q => ∃ l k xs, x = .ref l ∧ y = .int k ∧ SqT K H l xs ∧ xs ≠ [] ∧ 1 ≤ k ∧ k ≤ 1000 ∧ xs.length ≤ 1000 ∧ (k = 1 → Q (.ref l) H) ∧ (k ≠ 1 → ∀ p, H p = none → Q (.ref p) (upd H p (.tup (List.replicate k.toNat xs).flatten)))
section
variable {X : Cx}
theorem op_repT1 : OpR X (binaryOp .Mult) (rRepT1 X.K) := by
  intro pins s σ H x y v u Q I rx ry h
  obtain ⟨l, k, xs, ex, ey, hT, hne, h1, h2, hz, q1, q2⟩ := h
  by_cases hk : k = 1
  · subst hk
    subst ex
    subst ey
    cases rx
    obtain ⟨t, rfl⟩ := ry
    obtain ⟨its, r, ⟨⟨cls, dd, data, sl⟩, ho, hc, n, hd⟩, hs⟩ := I.tuple hT
    simp only at hc hd
    subst hc hd
    refine wpAny_binaryOp_repeat_ref (T := "tuple") (U := "int") (by decide) ⟨_, ho, rfl⟩ (fun s' => typeIs_int s' 1 t) noFill_tuple_mul F.fills_int_mul F.slot_int_rmul repeat_tuple F.slot_int_index.lookup
      (call_meets F.slot_int_rmul (typeIs_int s 1 t) F.entry_int_rmul (F.args_int_rmul_2 _ _) (int_rmul_tuple 1 t l its.toArray n dd sl)
        ⟨ho, rfl, ⟨_, ho, rfl⟩, call_meets F.slot_tuple_mul ⟨_, ho, rfl⟩ F.entry_tuple_mul (F.args_tuple_mul_2 _ _) (tuple_mul1 l its.toArray n sl dd t) ⟨ho, ?_⟩⟩)
    exact ⟨.ref l, H, I, rfl, q1 rfl⟩
  · exact op_repT pins s σ H x y v u Q I rx ry ⟨l, k, xs, ex, ey, hT, hne, by omega, h2, hz, q2 hk⟩
theorem kRepT1 {K : PySem.W.Frag} (h : X.K = K) : OpR X (binaryOp .Mult) (rRepT1 K) := h ▸ op_repT1
def tRevT (K : PySem.W.Frag) (te : TE) : TE := fun σ H Q => te σ H fun x H1 => ∃ a xs, x = .ref a ∧ SqT K H1 a xs ∧ ∀ p, H1 p = none → Q (.ref p) (upd H1 p (.tup xs.reverse))
theorem pe_revT {K : PySem.W.Frag} {e : Expr} {te : TE} {k : Nat} {p1 p2 p3 pos : Pos} (he : PE X e te) (hK : X.K = K := by rfl) : PE X (.Subscript e (.Slice none none (some (.UnaryOp .USub (.Constant (.int 1) k p1) p2)) p3) pos) (tRevT K te) := by
  subst hK
  refine ⟨fun pins s σ H Q I h => ?_⟩
  refine Subscript_ (thn (he.run pins s σ H _ I h) fun v s1 ⟨x, H1, I1, r1, q1⟩ => ?_)
  obtain ⟨a, xs, ex, hx, q⟩ := q1
  subst ex
  cases r1
  have hst : PO X (some (.UnaryOp .USub (.Constant (.int 1) k p1) p2)) (tPart (tUn (rU fun i => .int (-i)) (tC (.int 1)))) := po_some (pe_un un_neg pe_int)
  refine wpAny_Slice (thn (po_none.run pins s1 σ H1 (fun o H2 => o = none ∧ H2 = H1) I1 ⟨rfl, rfl⟩) fun vl s2 ⟨l, H2, I2, pl, el, e2⟩ => ?_)
  subst el e2
  refine thn (po_none.run pins s2 σ H2 (fun o H3 => o = none ∧ H3 = H2) I2 ⟨rfl, rfl⟩) fun vu s3 ⟨u, H3, I3, pu, eu, e3⟩ => ?_
  subst eu e3
  refine thn (hst.run pins s3 σ H3 (fun o H4 => o = some (-1) ∧ H4 = H3) I3 ⟨1, rfl, -1, rfl, rfl, rfl⟩) fun vs s4 ⟨o, H4, I4, ps, eo, e4⟩ => ?_
  subst eo e4
  have I5 : Inv X pins σ H4 { s4 with heap := s4.heap.push { cls := .type "slice", data := .fields #[vl, vu, vs] } } := I4.kept (t' := s4.toks) fun b ob q => Heap.get?_push_of_some _ q
  obtain ⟨its, r, ht, hz⟩ := I5.tuple hx
  have hlen := r.length
  show wpAny (model X.prog X.w) X.A (subscriptTail e (.Slice none none (some (.UnaryOp .USub (.Constant (.int 1) k p1) p2)) p3) (.ref a) (.ref s4.heap.objs.size)) (EP X pins σ Q) X.xe { s4 with heap := s4.heap.push { cls := .type "slice", data := .fields #[vl, vu, vs] } }
  refine tail_any (ops := [.ref a, .ref s4.heap.objs.size]) ht.typeIs (slot_tuple_getitem.lookup) ?_ (by with_unfolding_all rfl)
  refine getItem_tuple_rev ht (Heap.IsSliceOf.new _ vl vu vs) pl pu ps ?_ (by rw [List.size_toArray]; omega)
  refine ⟨.ref _, _, I5.laid (t' := s4.toks) (o := .tup xs.reverse) (fun b ob q => Heap.get?_push_of_some _ q) (Nat.le_refl _) ?_, rfl, q _ (I5.hok.fresh (Nat.le_refl _))⟩
  exact ⟨by rw [List.length_reverse]; exact hz, _, r.reverse, IsTup.new _ _⟩
end
end L2
namespace DL
open PySem PySem.Spec PyProof.Rows L2 PySem.W
/-- a tuple of texts of the written part -/
def WTup (K : PySem.W.Frag) (a : Addr) (xs : List Str) : Prop := ∃ (o : Obj) (its : Array Value) (n : Nat), K.lookup a = some o ∧ o.cls = .type "tuple" ∧ o.data = .seq its n ∧ its.size ≤ sizeLine ∧ Vals (xs.map V.str) its.toList
def strV : Value → Option Str
  | .str x _ => some x
  | _ => none
def wtB (K : PySem.W.Frag) (a : Addr) (xs : List Str) : Bool := match K.lookup a with
  | some o => decide (o.cls = .type "tuple") && (match o.data with
    | .seq its _ => decide (its.size ≤ sizeLine) && decide (its.toList.map strV = xs.map some)
    | _ => false)
  | none => false
theorem vals_strs : ∀ {its : List Value} {xs : List Str}, its.map strV = xs.map some → Vals (xs.map V.str) its
  | [], [], _ => .nil
  | [], _ :: _, h => by cases h
  | _ :: _, [], h => by cases h
  | v :: its, x :: xs, h => by
    rw [List.map_cons, List.map_cons] at h
    injection h with h1 h2
    refine .cons ?_ (vals_strs h2)
    cases v with
    | str y t => cases h1; exact ⟨t, rfl⟩
    | _ => cases h1
theorem wt_of {K : PySem.W.Frag} {a : Addr} {xs : List Str} (h : wtB K a xs = true) : WTup K a xs := by
  unfold wtB at h
  cases e : K.lookup a with
  | none => rw [e] at h; cases h
  | some o =>
    rw [e] at h
    simp only [Bool.and_eq_true, decide_eq_true_eq] at h
    obtain ⟨h1, h2⟩ := h
    cases e2 : o.data with
    | seq its n =>
      rw [e2] at h2
      simp only [Bool.and_eq_true, decide_eq_true_eq] at h2
      exact ⟨o, its, n, e, h1, e2, h2.1, vals_strs h2.2⟩
    | _ => rw [e2] at h2; cases h2
theorem dp_strs_of {K : PySem.W.Frag} {H : Hp} : ∀ (ns : List Str), DpAll K H (ns.map .str) (ns.map .str)
  | [] => .nil
  | n :: ns => .cons (.str n) (dp_strs_of ns)
theorem dp_strs {K : PySem.W.Frag} {H : Hp} : ∀ {ns : List Str} {vs : List V}, DpAll K H vs (ns.map .str) → vs = ns.map .str
  | [], vs, h => by cases h; rfl
  | n :: ns, vs, h => by
    have h' : DpAll K H vs (.str n :: ns.map .str) := h
    cases h' with
    | cons h1 h2 =>
      cases h1
      rw [dp_strs h2]; rfl
theorem inV_strs (i : Str) : ∀ ns : List Str, inV (.str i) (ns.map V.str) = decide (i ∈ ns)
  | [] => by simp [inV]
  | n :: ns => by
    have ih := inV_strs i ns
    show ((n == i) || inV (.str i) (ns.map V.str)) = _
    rw [ih]
    by_cases h : i = n
    · subst h; simp
    · have h' : (n == i) = false := by
        cases e : (n == i) with
        | false => rfl
        | true => exact absurd (eq_of_beq e).symm h
      rw [h', Bool.false_or]
      simp [h]
section
variable {c : Cn} {S : Addr → Bool} {As As1 As2 : Ads} {H H1 : Hp} {M M1 M2 : List MO} {ρ : List Sl} {σ : L2.St} {P P' : Po} {ta tb te : TE} {tt tu : TT} {t u : TS} {s : Sl} {v w : V} {Q Q' : QS} {X : XP} {R : VK}
theorem dv_wt {a : Addr} {xs : List Str} (h : WTup c.K a xs) : Dv c (tC (.ref a)) ρ M (.tuple (xs.map .str)) := ev_c (s := .d (.tuple (xs.map .str))) (fun S As H => by
  obtain ⟨o, its, n, h1, h2, h3, h4, h5⟩ := h
  exact .tup (.inr ⟨o, its, n, h1, h2, h3, h4, h5⟩) (dp_strs_of xs)) ⟨rfl, rfl⟩
theorem dv_inS {x : PyData} {i : Str} {ns : List Str} (ha : Dv c ta ρ M (.str i)) (hb : Dv c tb ρ M x) (e : seqD x = some (ns.map .str)) : Dv c (tOp (rIn c.K false) ta tb) ρ M (.bool (decide (i ∈ ns))) :=
  dv_op ha hb fun S As H v w hv hw m R k => by
    cases hv
    obtain ⟨a, ws, rfl, h1, h2⟩ := dp_seq hw.dp e
    have := dp_strs h2
    subst this
    refine ⟨a, _, rfl, h1, rfl, by rw [List.all_map]; simp [flatV, Function.comp_def], ?_⟩
    show R (.bl (inV (.str i) (ns.map V.str))) H
    rw [inV_strs]
    exact k.here ⟨rfl, rfl⟩ m (.bl _)
theorem dv_revT {ds : List PyData} (h : Dv c te ρ M (.tuple ds)) : Dv c (tRevT c.K te) ρ M (.tuple ds.reverse) := fun S As σ H e m R k kx =>
  h S As σ H e m _ (fun s M' As' v H' ⟨e1, e2⟩ g m' r => by
    subst e1; subst e2
    obtain ⟨a, vs, rfl, h1, h2⟩ := dp_tup r
    exact ⟨a, vs, rfl, hmk_sqT h1, fun p hp => new_tup m' hp (dpAll_reverse h2) (k.go g) ⟨rfl, rfl⟩⟩) KX.none
/-- tuple * n -/
theorem dv_repT {ds : List PyData} {n : Int} (ha : Dv c ta ρ M (.tuple ds)) (hb : Dv c tb ρ M (.int n)) (h0 : ds ≠ []) (h1 : 1 ≤ n) (h2 : n ≤ 1000) (hl : ds.length ≤ 1000 := by exact Nat.le_of_ble_eq_true rfl) : Dv c (tOp (rRepT1 c.K) ta tb) ρ M (.tuple (List.replicate n.toNat ds).flatten) :=
  dv_op ha hb fun S As H v w hv hw m R k => by
    obtain ⟨a, vs, rfl, h3, h4⟩ := dp_tup hv
    cases hw
    have e := dpAll_length h4
    refine ⟨a, n, vs, rfl, rfl, hmk_sqT h3, fun z => h0 (by rw [z] at e; exact List.eq_nil_of_length_eq_zero e.symm), h1, h2, by rw [e]; exact hl, fun hn => ?_, fun hn p hp => new_tup m hp (dpAll_rep h4 _) k ⟨rfl, rfl⟩⟩
    subst hn
    have e2 : (List.replicate (1 : Int).toNat ds).flatten = ds := by simp
    rw [e2] at k
    exact k.here ⟨rfl, rfl⟩ m hv
/-- a pair of own lists -/
theorem ev_pair {i j a b : Nat} (hi : ρ[i]? = some (.m a)) (hj : ρ[j]? = some (.m b)) (q : Q (.pr (.inr a) (.inr b)) M) : EV c (tTup (tCons (tVar i) (tCons (tVar j) tNil))) ρ M Q X :=  fun S As σ H e m R k kx => by
  obtain ⟨v1, e1, r1⟩ := e.at_ i _ hi (fun z => nomatch z)
  obtain ⟨v2, e2, r2⟩ := e.at_ j _ hj (fun z => nomatch z)
  refine ⟨v1, e1, v2, e2, (show 2 ≤ sizeLine by decide), fun p hp => ?_⟩
  have g2 := go_new (o := .tup [v1, v2]) m hp
  obtain ⟨hs, hn⟩ := m.fresh hp
  obtain ⟨a1, ea1, rfl⟩ := r1
  obtain ⟨a2, ea2, rfl⟩ := r2
  exact k _ M As _ _ q g2 (m.new hp) ⟨p, _, _, rfl, hmk_of hs hn upd_same, ⟨a1, ea1, rfl⟩, ⟨a2, ea2, rfl⟩⟩
theorem ev_pair0 {a : Nat} {y : PyData ⊕ Nat} (h : EV c te ρ M (fun s M1 => s = .pr (.inr a) y ∧ Q (.m a) M1) X) : EV c (tOp (rIxT c.K) te (tC (.int 0))) ρ M Q X :=
  ev_op (EV.imp h (fun s M1 ⟨e, q⟩ => by
    subst e
    refine ev_c (s := .d (.int 0)) (fun _ _ _ => Dp.int 0) fun S As H v w hv hw m R k => ?_
    cases hw
    obtain ⟨p, v1, v2, rfl, h1, h2, h3⟩ := hv
    obtain ⟨a1, ea1, rfl⟩ := h2
    exact ⟨p, _, 0, .ref a1, rfl, rfl, .inl (.inl (hmk_some h1).2.2), rfl, k.here q m ⟨a1, ea1, rfl⟩⟩) fun _ _ z => z)
theorem ev_pair1 {b : Nat} {x : PyData ⊕ Nat} (h : EV c te ρ M (fun s M1 => s = .pr x (.inr b) ∧ Q (.m b) M1) X) : EV c (tOp (rIxT c.K) te (tC (.int 1))) ρ M Q X :=
  ev_op (EV.imp h (fun s M1 ⟨e, q⟩ => by
    subst e
    refine ev_c (s := .d (.int 1)) (fun _ _ _ => Dp.int 1) fun S As H v w hv hw m R k => ?_
    cases hw
    obtain ⟨p, v1, v2, rfl, h1, h2, h3⟩ := hv
    obtain ⟨a1, ea1, rfl⟩ := h3
    exact ⟨p, _, 1, .ref a1, rfl, rfl, .inl (.inl (hmk_some h1).2.2), rfl, k.here q m ⟨a1, ea1, rfl⟩⟩) fun _ _ z => z)
end
end DL

set_option Elab.async false
set_option linter.all false
set_option autoImplicit false
set_option maxRecDepth 100000
set_option maxHeartbeats 2000000
/-! DL: lambdas with parameters, handed to a def and called there. -/
namespace DL
open PySem PySem.Spec PySem.Calls PyProof.Rows PySem.W L2 NdefX
def stAt (st : Stmt) (k : Nat) : Stmt := (L2.defBody st).getD k (.Pass ⟨0, 0, 0, 0⟩)
/-- the object at f is this lambda -/
def LamO (f : Addr) (F : NF) (body : Expr) : HO := .ext fun h => ∃ (pm ctv : Value), h.get? f = some (PySem.W.kla_obj "<lambda>" F.qual F.params body F.scope F.cl pm F.c ctv)
theorem lamO_at {P : Program} {w : World} {H : Hp} {h : Heap} {f : Addr} {F : NF} {body : Expr} (hok : HOk P w H h) (e : H f = some (LamO f F body)) : ∃ (pm ctv : Value), h.get? f = some (PySem.W.kla_obj "<lambda>" F.qual F.params body F.scope F.cl pm F.c ctv) := by
  obtain ⟨z, _, _⟩ := hok f _ e
  exact z
theorem lamO_ne {f : Addr} {F : NF} {body : Expr} (ps : Array Value) : LamO f F body ≠ .tbl ps := fun z => by
  unfold LamO at z
  cases z
section
variable {X : Cx} {pins : List (Addr × Obj)} {σ : L2.St} {H : Hp} {s : Shared}
theorem inv_lam {F : NF} {body : Expr} {o : Obj} {t' : Nat} {pm ctv : Value} (I : Inv X pins σ H s) (ho : o = PySem.W.kla_obj "<lambda>" F.qual F.params body F.scope F.cl pm F.c ctv) :
    Inv X pins σ (upd H s.heap.objs.size (LamO s.heap.objs.size F body)) { s with heap := s.heap.push o, toks := t' } := by
  subst ho
  refine I.laid (a := s.heap.objs.size) (fun b u e => Heap.get?_push_of_some _ e) (Nat.le_refl _) ?_
  have e : (s.heap.push (PySem.W.kla_obj "<lambda>" F.qual F.params body F.scope F.cl pm F.c ctv)).get? s.heap.objs.size = some (PySem.W.kla_obj "<lambda>" F.qual F.params body F.scope F.cl pm F.c ctv) := Heap.get?_push_size _ rfl
  exact ⟨⟨pm, ctv, e⟩, ⟨_, e⟩, fun h1 h2 ⟨p, t, z⟩ st => ⟨p, t, st _ z⟩⟩
/-- the lambda's words in the def that makes it -/
abbrev mkF (X : Cx) (params : Arguments) (scope : Scope) (c' : Addr) : NF := ⟨"<lambda>", X.env.qual ++ "<lambda>", params, [], scope, cloFrom X.env.cells scope.names [], c'⟩
/-- the lambda is made, and known from now on -/
theorem lam_mkO {T : List NdefX.NTab} {c P : Addr} {params : Arguments} {body : Expr} {scope : Scope} {pos : Pos} {E : Value → Shared → Prop} {Q : Value → Shared → Prop} (I : Inv X pins σ H s) (TB : LamX.TabB X.base X.mg c P) (hcode : X.env.code = .ref c)
    {nm : Nat → Nat → Str} (hm : (P, nm) ∈ T) (hn : nm pos.line pos.col = X.env.qual ++ "<lambda>") (hu : ∀ p ∈ T, p.1 = P → p.2 = nm) (hT : NdefX.TabsN T H) (hdef : defaultsOf params X.env = ([], [])) (hfree : ∀ y ∈ scope.names, y.2 = .free → ∃ c, X.env.cells.lookup y.1 = some c)
    (h : ∀ (f c' : Addr) (H1 : Hp) (s' : Shared), Inv X pins σ H1 s' → LamX.ExtN H H1 → Dm H H1 → NdefX.TabsN T H1 → H f = none →
      H1 f = some (LamO f (mkF X params scope c') body) → H1 c' = some (LamX.CodeO c' (X.env.qual ++ "<lambda>")) → Q (.ref f) s') :
    wpAny (model X.prog X.w) X.A (eval (.Lambda params body scope pos) X.env) Q E s := by
  obtain ⟨ps, hP, ht, ha⟩ := (show NdefX.TabN H P nm from hT _ hm)
  refine PySem.W.kla_eval hdef ?_
  have bP : s.heap.BuiltinsAt X.mg P := TB.bm.keeps I.bk
  have hP' : s.heap.get? P = some { cls := .none, data := .fields ps } := I.hok P _ hP
  cases hc : codeAmong pos ps.toList with
  | none =>
    refine PySem.W.kla_makeFunction (mg := X.mg) (c := c) (P := P) (ps := ps) (closure_ok hfree) I.ok.glob (I.mod.glob.keeps I.bk) hcode (TB.code.keeps I.bk) hP' ht hc TB.gP bP fun c' ctv h' tk hx hge hlt hrec htb => ?_
    obtain ⟨c2, oc, vs, t, e2, hoc, hd, hv⟩ := hrec
    cases e2
    have hsz : s.heap.objs.size ≤ h'.objs.size := Nat.le_trans hge (Nat.le_of_lt hlt)
    have nC : H c' = none := I.hok.fresh hge
    have I1 := LamX.inv_table (q := X.env.qual ++ "<lambda>") (t' := tk) (more := #[rawInt pos.line, rawInt pos.col, .ref c']) (h' := h') I hP (fun b o hb e => hx b o hb e) htb hge ⟨oc, vs, t, hoc, hd, hv⟩
    have hE : LamX.ExtN H (upd (upd H P (.tbl (ps ++ #[rawInt pos.line, rawInt pos.col, .ref c']))) c' (LamX.CodeO c' (X.env.qual ++ "<lambda>"))) := fun b o e n => by
      rw [upd_ne (ne_of_none e nC), upd_ne (fun z => n ps (Option.some.inj (e.symm.trans (by rw [z]; exact hP))))]
      exact e
    have eL : (ps ++ #[rawInt pos.line, rawInt pos.col, .ref c']).toList = ps.toList ++ [rawInt pos.line, rawInt pos.col, .ref c'] := by simp
    have T1 : NdefX.TabsN T (upd (upd H P (.tbl (ps ++ #[rawInt pos.line, rawInt pos.col, .ref c']))) c' (LamX.CodeO c' (X.env.qual ++ "<lambda>"))) := fun p hp => by
      by_cases hb : p.1 = P
      · rw [hu p hp hb, hb]
        refine ⟨_, by rw [upd_ne (ne_of_none hP nC), upd_same], by rw [eL]; exact PySem.TriplesOk_snoc _ _ _ _ ht, fun p' cv hcv => ?_⟩
        rw [eL] at hcv
        rcases NdefX.among_app2 _ ht hcv with z | ⟨z, z1, z2⟩
        · obtain ⟨c0, e1, e2⟩ := ha p' cv z
          exact ⟨c0, e1, hE _ _ e2 LamX.codeO_ne⟩
        · refine ⟨c', z, ?_⟩
          rw [← z1, ← z2, hn]
          exact upd_same
      · obtain ⟨ps', a1, a2, a3⟩ := hT p hp
        refine ⟨ps', by rw [upd_ne (ne_of_none a1 nC), upd_ne hb]; exact a1, a2, fun p' cv hcv => ?_⟩
        obtain ⟨c0, e1, e2⟩ := a3 p' cv hcv
        exact ⟨c0, e1, hE _ _ e2 LamX.codeO_ne⟩
    have nF := I1.hok.fresh (Nat.le_refl _)
    have I2 := inv_lam (F := mkF X params scope c') (body := body) (t' := tk) (pm := (X.mg "__name__").getD .none) (ctv := ctv) I1 rfl
    refine h h'.objs.size c' _ _ I2 (fun b o e n => ?_) (fun b u hb => ?_) (T1.ext fun b o e => ?_) (I.hok.fresh hsz) upd_same ?_
    · have e1 := hE b o e n
      exact (upd_ne (ne_of_none e1 nF)).trans e1
    · have n1 : b ≠ h'.objs.size := ne_of_none hb (I.hok.fresh hsz)
      rw [upd_ne n1, upd_ne (ne_of_none hb nC)]
      by_cases h2 : b = P
      · rw [h2, upd_same]
        rw [h2, hP] at hb
        cases hb
        exact ⟨_, rfl, rfl⟩
      · rw [upd_ne h2]; exact ⟨u, hb, rfl⟩
    · exact (upd_ne (ne_of_none e nF)).trans e
    · exact (upd_ne (Nat.ne_of_lt hlt)).trans upd_same
  | some cv =>
    obtain ⟨c', e, hco⟩ := ha pos cv hc
    subst e
    rw [hn] at hco
    refine PySem.W.kla_makeFunctionHit (mg := X.mg) (c := c) (P := P) (ps := ps) (closure_ok hfree) I.ok.glob (I.mod.glob.keeps I.bk) hcode (TB.code.keeps I.bk) hP' ht hc bP fun ctv h' tk hx hsz => ?_
    have I1 : Inv X pins σ H { s with heap := h', toks := tk } := I.kept hx
    have nF : H h'.objs.size = none := I1.hok.fresh (Nat.le_refl _)
    have I2 := inv_lam (F := mkF X params scope c') (body := body) (t' := tk) (pm := (X.mg "__name__").getD .none) (ctv := ctv) I1 rfl
    refine h h'.objs.size c' _ _ I2 (fun b o e n => ?_) (fun b u hb => ?_) (hT.ext fun b o e => ?_) nF upd_same ?_
    · exact (upd_ne (ne_of_none e nF)).trans e
    · exact ⟨u, (upd_ne (ne_of_none hb nF)).trans hb, rfl⟩
    · exact (upd_ne (ne_of_none e nF)).trans e
    · exact (upd_ne (ne_of_none hco nF)).trans hco
end
/-- a closure's object -/
structure ClO where
  ob : Addr → HO
  c : Addr
  q : Str
  ext : ∀ f, isTupO (ob f) = true ∧ isTbl (ob f) = false
  fn : ∀ {P : Program} {w : World} {H : Hp} {h : Heap} {f : Addr}, HOk P w H h → H f = some (ob f) → PySem.W.FnAt f h
def lamC (F : NF) (body : Expr) : ClO := ⟨fun f => LamO f F body, F.c, F.qual, fun f => ⟨rfl, rfl⟩, fun hok e => by
  obtain ⟨pm, ctv, ho⟩ := lamO_at hok e
  exact ⟨_, _, _, _, ho⟩⟩
def fnC (F : NF) : ClO := ⟨fun f => FnO f F, F.c, F.qual, fun f => ⟨rfl, rfl⟩, fun hok e => by
  obtain ⟨od, sl, doc, pm, ctv, ho⟩ := fnO_at hok e
  exact ⟨_, _, _, _, ho⟩⟩
/-- a lambda as an expression -/
def tMkLam (T : List NdefX.NTab) (mk : Addr → ClO) : TE := fun σ H Q => NdefX.TabsN T H ∧ ∀ (f c' : Addr) (H1 : Hp), LamX.ExtN H H1 → Dm H H1 → NdefX.TabsN T H1 → H f = none → H1 f = some ((mk c').ob f) → H1 (mk c').c = some (LamX.CodeO (mk c').c (mk c').q) → Q (.ref f) H1
section
variable {X : Cx}
theorem pe_lam {T : List NdefX.NTab} {c P : Addr} {params : Arguments} {body : Expr} {scope : Scope} {pos : Pos} (TB : LamX.TabB X.base X.mg c P) (hcode : X.env.code = .ref c) {nm : Nat → Nat → Str} (hm : (P, nm) ∈ T) (hn : nm pos.line pos.col = X.env.qual ++ "<lambda>") (hu : ∀ p ∈ T, p.1 = P → p.2 = nm)
    (hdef : defaultsOf params X.env = ([], [])) (hfree : ∀ y ∈ scope.names, y.2 = .free → X.env.scope.names.lookup y.1 = some .cell ∨ X.env.scope.names.lookup y.1 = some .free) :
    PE X (.Lambda params body scope pos) (tMkLam T fun c' => lamC (mkF X params scope c') body) := by
  refine ⟨fun pins s σ H Q I h => ?_⟩
  obtain ⟨hT, h⟩ := h
  refine lam_mkO I TB hcode hm hn hu hT hdef (fun y hy e => (hfree y hy e).elim (fun z => I.ok.has _ (.inl z)) fun z => I.ok.has _ (.inr z)) fun f c' H1 s' I1 eN dm T1 f0 f1 c1 => ?_
  exact ⟨.ref f, H1, I1, rfl, h f c' H1 eN dm T1 f0 f1 c1⟩
end
/-! ### what a closure does, wherever it is called -/
abbrev Spc := List V → Hp → VK → Prop
/-- from the state s, H on: the lambda at f keeps sp -/
def LamRun (P : Program) (w : World) (K : PySem.W.Frag) (mg : Str → Option Value) (base : Heap) (k : Nat) (f : Addr) (O : ClO) (nl : Nat) (sp : Spc) (fs : List Addr) (s : Shared) (H : Hp) : Prop :=
  ∀ (A : Around) (outer : List Env) (s1 : Shared) (H1 : Hp) (us : List Value) (vs : List V) (Q : VK), Room (k + 1) A → Env0 P w K mg base A outer s1 H1 → Un fs [] H H1 s.heap s1.heap → H1 f = some (O.ob f) → H1 O.c = some (LamX.CodeO O.c O.q) → Vals vs us → vs.length = nl → sp vs H1 Q →
    codeAny (model P w) A (.call (.ref f) ⟨us, []⟩) (CR (L2N.CX P w) outer P w H1 s1 Q E0) s1
theorem cells_laterU {cl : List (Str × Addr)} {fr : List Str} {ws : List (Option V)} {fs : List Addr} {h h1 : Heap} {H H1 : Hp} (C : CellsAt cl fr ws h H) (un : Un fs [] H H1 h h1) : CellsAt cl fr ws h1 H1 := by
  have kp : ∀ y c, cl.lookup y = some c → ∀ v, h.IsCell c v → h1.IsCell c v := fun y c e v ⟨o, ho, hd⟩ => by
    obtain ⟨sl, q⟩ := un.any ho (C.all y c e).1 (by simp)
    exact ⟨_, q, hd⟩
  refine ⟨C.len, fun y c e => ?_, C.inj, fun i y e => ?_⟩
  · obtain ⟨n, v, z⟩ := C.all y c e
    refine ⟨?_, v, kp y c e v z⟩
    obtain ⟨o, ho, _⟩ := z
    exact un.free c o ho n (by simp)
  · obtain ⟨c, hc, hv⟩ := C.has i y e
    refine ⟨c, hc, fun v ev => ?_⟩
    obtain ⟨u, r, z⟩ := hv v ev
    exact ⟨u, r, kp y c hc _ z⟩
/-- by its body -/
theorem lamrun_of {P : Program} {w : World} {K : PySem.W.Frag} {mg : Str → Option Value} {base : Heap} {k : Nat} {f : Addr} {F : NF} {body : Expr} {N ps fr : List Str} {fs : List Addr} {s : Shared} {H : Hp} {ws : List (Option V)} {tb : TE} (S : NScope N ps fr F.scope) (C : CellsAt F.cl fr ws s.heap H)
    (hbind : ∀ (pm ctv : Value) (us : List Value), us.length = ps.length → bindArgs (PySem.W.kla_fn "<lambda>" F.qual F.params body F.scope F.cl pm (.ref F.c) ctv) ⟨us, []⟩ = pure (ps.zip us))
    (hbody : ∀ (A : Around) (outer : List Env) (s : Shared) (H : Hp), Room k (A.deeper (envF F f s.heap.objs.size)) → PE (ncx (L2N.CX P w) P w K mg base N F f A outer s H E0) body tb) :
    LamRun P w K mg base k f (lamC F body) ps.length (fun vs H Q => tb (startF N vs ws) H Q) fs s H := by
  intro A outer s1 H1 us vs Q hr e0 un hf hc r hl q
  obtain ⟨pm, ctv, of1⟩ := lamO_at e0.hok hf
  have lim : s1.heap.NoLimit := e0.mod.nolimit.keeps fun b o e => (e0.bs b o e).1
  refine PySem.W.kla_callFunE hr.depth of1 rfl S.co S.gen rfl (codeO_at e0.hok hc) ?_
  rw [hbind pm ctv us (by rw [← r.length]; exact hl)]
  refine wpAny_pure (wpAny_newFunctionEnv S.nocell (fun ⟨n, _⟩ hy => S.par n (List.of_mem_zip hy).1) (fun h₁ hns hsb => ⟨lim.fresh _ hsb, ?_⟩) S.kind)
  show codeAny _ _ (.expr body (envF F f s1.heap.objs.size)) _ _
  have kp : ∀ b o, s1.heap.get? b = some o → h₁.get? b = some o := fun b o e => hsb.extBut b o (Nat.ne_of_lt (Heap.lt_size e)) (Heap.get?_push_of_some _ e)
  have J : Inv (ncx (L2N.CX P w) P w K mg base N F f A outer s1 H1 E0) [] (startF N vs ws) H1 { s1 with heap := h₁, toks := s1.toks + (ps.zip us).length } := inv_startN S hr.hd e0 hl r (cells_laterU C un) hns kp
  refine PySem.W.kla_codeExpr (wpAny_mono ((hbody A outer s1 H1 (hr.deeper _)).run [] _ _ H1 Q J q) (fun v s' hq => ?_) fun e s' hq => hq)
  obtain ⟨w', H', J', rv, q⟩ := hq
  exact ⟨w', H', J'.os, J'.bare, J'.base, J'.hok, rv, q⟩
/-! ### its call, in the def that got it -/
def tAct (i : Nat) (f : Addr) (O : ClO) (nl : Nat) (sp : Spc) (t : TA) : TE := fun σ H Q => σ[i]? = some (some (.ref f)) ∧ H f = some (O.ob f) ∧ t σ H fun vs H1 => vs.length = nl ∧ H1 f = some (O.ob f) ∧ H1 O.c = some (LamX.CodeO O.c O.q) ∧ sp vs H1 Q
section
variable {X : Cx} {k nl i : Nat} {f : Addr} {O : ClO} {sp : Spc} {a : Str} {e : Expr} {es : List Expr} {t : TA} {p pos : Pos}
theorem lamAt {pins : List (Addr × Obj)} {σ : L2.St} {H : Hp} {s : Shared} (I : Inv X pins σ H s) (e : H f = some (O.ob f)) : PySem.W.FnAt f s.heap := O.fn I.hok e
theorem pe_act (L : LamRun X.prog X.w X.K X.mg X.base k f O nl sp (frs X.outer) X.s_0 X.H_0) (hex : X.ex = []) (hr : Room (k + 1) X.A) (hN : X.N[i]? = some a) (hv : Vis X.env.scope a) (ha : PA X (e :: es) t)
    (hd : (a == ("__debug__" : Str)) = false := by decide) (hcd : (a == ("__classdict__" : Str)) = false := by decide)
    (he : starEach (e :: es) X.env = (false, eval e X.env) :: starEach es X.env := by rfl) (hpl : (backTo pos (starEach es X.env)).any (·.1) = false := by rfl) :
    PE X (.Call (.Name a p) (e :: es) [] pos) (tAct i f O nl sp t) := by
  refine ⟨fun pins s σ H Q I h => ?_⟩
  obtain ⟨hs, hf, ht⟩ := h
  refine wpAny_Call_Name_kw (thn ((pe_var (pos := p) hN hv hd hcd).run pins s σ H (fun v H1 => v = .ref f ∧ H1 = H) I ⟨.ref f, hs, rfl, rfl⟩) fun u s1 ⟨v, H1, I1, r1, q1⟩ => ?_)
  obtain ⟨ev, eH⟩ := q1
  subst ev
  rw [eH] at I1
  obtain rfl : u = Value.ref f := r1
  refine PySem.W.callWith_F (first := []) (lamAt I1 hf) (thn (ha.run pos pins s1 σ H _ I1 ht) fun us s2 ⟨vs, H2, I2, r, hl, h1, h2, q⟩ => ⟨lamAt I2 h1, ?_⟩) he hpl
  show wpAny _ _ (call (.ref f) us) _ _ _
  have un : Un (frs X.outer) [] X.H_0 H2 X.s_0.heap s2.heap := by
    have := I2.base
    rw [hex] at this
    exact this
  refine wpAny_call (codeAny_mono (L X.A X.stack s2 H2 us vs Q hr I2.env0 un h1 h2 r hl q) fun r s' hq => ?_)
  cases r with
  | error e => exact passN pins σ H2 s2 e s' I2 hq
  | ok fl =>
    cases fl with
    | ret u => exact I2.after hq
    | next => exact False.elim hq
    | brk => exact False.elim hq
    | cont => exact False.elim hq
end
/-! ### a def that gets a closure -/
/-- the promise of the def at g, whatever lambda it gets -/
structure GvOk (P : Program) (w : World) (K : PySem.W.Frag) (mg : Str → Option Value) (base : Heap) (k kl : Nat) (g : Addr) (fd : FuncData) (ps : List Str) (spG : Addr → ClO → Nat → Spc → Sp) : Prop where
  len : ∀ f O nl sp vs H Q E, spG f O nl sp vs H Q E → vs.length = ps.length
  run : ∀ (A : Around) (outer : List Env) (s : Shared) (H : Hp) (args : Args) (us : List Value) (vs : List V) (Q : VK) (f : Addr) (O : ClO) (nl : Nat) (sp : Spc), Room k A → Env0 P w K mg base A outer s H → BindsTo s fd args (ps.zip us) → Vals vs us →
    LamRun P w K mg base kl f O nl sp (frs outer) s H → spG f O nl sp vs H Q E0 → codeAny (model P w) A (.call (.ref g) args) (CR (L2N.CX P w) outer P w H s Q E0) s
def tCallC (spG : Addr → ClO → Nat → Spc → Sp) (mk : Addr → ClO) (nl : Nat) (tb : TE) (Nl : List Str) (js : List Nat) (t : TA) : TE := fun σ H Q => t σ H fun vs H1 => ∃ f c', H1 f = some ((mk c').ob f) ∧ H1 (mk c').c = some (LamX.CodeO (mk c').c (mk c').q) ∧
  spG f (mk c') nl (fun vs' H' Q' => tb (startF Nl vs' (js.map (slotAt σ))) H' Q') vs H1 Q E0
section
variable {X : Cx} {CX : CXT} {k kl : Nat} {g : Addr} {fd : FuncData} {psG : List Str} {spG : Addr → ClO → Nat → Spc → Sp} {body : Expr} {tb : TE} {N ps fr : List Str} {js : List Nat} {x : Str} {e : Expr} {es : List Expr} {t : TA} {p pos : Pos} {scope : Scope} {params : Arguments}
theorem pe_callC (G : GvOk X.prog X.w X.K X.mg X.base k kl g fd psG spG) (hr : Room k X.A) (hg : Gl X x) (hm : X.mg x = some (.ref g)) (hk : PySem.W.keepIn X.K (.ref g) = true) (hb : L2.Binds X.K fd psG [])
    (hfree : ∀ y ∈ scope.names, y.2 = .free → X.env.scope.names.lookup y.1 = some .cell ∨ X.env.scope.names.lookup y.1 = some .free) (hfr : ∀ y ∈ fr, (y, NameKind.free) ∈ scope.names) (hjs : js.map (fun j => X.N[j]?) = fr.map some) (S : NScope N ps fr scope)
    (hbind : ∀ (q : Str) (cl : List (Str × Addr)) (pm cv ctv : Value) (us : List Value), us.length = ps.length → bindArgs (PySem.W.kla_fn "<lambda>" q params body scope cl pm cv ctv) ⟨us, []⟩ = pure (ps.zip us))
    (hbody : ∀ (f c' : Addr) (A : Around) (outer : List Env) (s : Shared) (H : Hp), Room kl (A.deeper (envF (mkF X params scope c') f s.heap.objs.size)) → PE (ncx (L2N.CX X.prog X.w) X.prog X.w X.K X.mg X.base N (mkF X params scope c') f A outer s H E0) body tb)
    (ha : PA X (e :: es) t) (hdb : (x == ("__debug__" : Str)) = false := by decide)
    (he : starEach (e :: es) X.env = (false, eval e X.env) :: starEach es X.env := by rfl) (hpl : (backTo pos (starEach es X.env)).any (·.1) = false := by rfl) :
    PE X (.Call (.Name x p) (e :: es) [] pos) (tCallC spG (fun c' => lamC (mkF X params scope c') body) ps.length tb N js t) := by
  refine ⟨fun pins s σ H Q I h => ?_⟩
  refine wpAny_Call_Name_kw (ld_glob I hg hm ?_ hdb)
  refine PySem.W.callWith_K (h₀ := X.base) I.ok.mod.kin hk (thn (ha.run pos pins s σ H _ I h) fun us s2 ⟨vs, H2, I2, r, q⟩ => ⟨I2.kIn, ?_⟩) he hpl
  obtain ⟨f, c', h1, h2, q⟩ := q
  have hl : us.length = psG.length := by rw [← r.length]; exact G.len _ _ _ _ _ _ _ _ q
  have C : CellsAt (mkF X params scope c').cl fr (js.map (slotAt σ)) s2.heap H2 := cells_of I2 (Caps.made I2.ok hfree hfr hjs)
  have L : LamRun X.prog X.w X.K X.mg X.base kl f (lamC (mkF X params scope c') body) ps.length (fun vs' H' Q' => tb (startF N vs' (js.map (slotAt σ))) H' Q') (frs X.stack) s2 H2 :=
    lamrun_of (N := N) (ps := ps) (fr := fr) S C (fun pm ctv us hu => hbind _ _ _ _ _ us hu) (fun A outer s H hr => hbody f c' A outer s H hr)
  show wpAny _ _ (call (.ref g) us) _ _ _
  refine wpAny_call (codeAny_mono (G.run X.A X.stack s2 H2 ⟨us, []⟩ us vs Q f _ _ _ hr I2.env0 (by have := hb s2 us I2.kIn (by rw [List.append_nil]; exact hl); rw [List.append_nil] at this; exact this) r L q) fun r s' hq => ?_)
  cases r with
  | error e => exact passN pins σ H2 s2 e s' I2 hq
  | ok fl =>
    cases fl with
    | ret u => exact I2.after hq
    | next => exact False.elim hq
    | brk => exact False.elim hq
    | cont => exact False.elim hq
end
section
variable {X : Cx} {CX : CXT} {k kl : Nat} {g : Addr} {fd : FuncData} {psG : List Str} {spG : Addr → ClO → Nat → Spc → Sp} {body : Expr} {tb : TE} {N ps fr : List Str} {js : List Nat} {x : Str} {e1 e2 e3 : Expr} {t1 t2 t3 : TE} {p pos lpos : Pos} {scope : Scope} {params : Arguments} {T : List NdefX.NTab} {c P : Addr}
/-- g(e1, e2, e3, lambda ..) -/
theorem pe_callC3 (G : GvOk X.prog X.w X.K X.mg X.base k kl g fd psG spG) (hr : Room k X.A) (hg : Gl X x) (hm : X.mg x = some (.ref g)) (hk : PySem.W.keepIn X.K (.ref g) = true) (hb : L2.Binds X.K fd psG [])
    {sc : Scope} (hsc : X.env.scope = sc) (hdc : ndefB sc scope fr = true) (hjs : js.map (fun j => X.N[j]?) = fr.map some) (S : NScope N ps fr scope)
    (hbind : ∀ (q : Str) (cl : List (Str × Addr)) (pm cv ctv : Value) (us : List Value), us.length = ps.length → bindArgs (PySem.W.kla_fn "<lambda>" q params body scope cl pm cv ctv) ⟨us, []⟩ = pure (ps.zip us))
    (TB : LamX.TabB X.base X.mg c P) (hcode : X.env.code = .ref c) {nm : Nat → Nat → Str} (hmT : (P, nm) ∈ T) (hnm : nm lpos.line lpos.col = X.env.qual ++ "<lambda>") (hu : ∀ p ∈ T, p.1 = P → p.2 = nm) (hdef : defaultsOf params X.env = ([], []))
    (hbody : ∀ (f c' : Addr) (A : Around) (outer : List Env) (s : Shared) (H : Hp), Room kl (A.deeper (envF (mkF X params scope c') f s.heap.objs.size)) → PE (ncx (L2N.CX X.prog X.w) X.prog X.w X.K X.mg X.base N (mkF X params scope c') f A outer s H E0) body tb)
    (h1 : PE X e1 t1) (h2 : PE X e2 t2) (h3 : PE X e3 t3) (hdb : (x == ("__debug__" : Str)) = false := by decide)
    (he : starEach [e1, e2, e3, .Lambda params body scope lpos] X.env = (false, eval e1 X.env) :: starEach [e2, e3, .Lambda params body scope lpos] X.env := by rfl) (hpl : (backTo pos (starEach [e2, e3, .Lambda params body scope lpos] X.env)).any (·.1) = false := by rfl)
    (he2 : starEach [e2, e3, .Lambda params body scope lpos] X.env = (false, eval e2 X.env) :: starEach [e3, .Lambda params body scope lpos] X.env := by rfl) (he3 : starEach [e3, .Lambda params body scope lpos] X.env = (false, eval e3 X.env) :: starEach [.Lambda params body scope lpos] X.env := by rfl) :
    PE X (.Call (.Name x p) [e1, e2, e3, .Lambda params body scope lpos] [] pos) (tCallC spG (fun c' => lamC (mkF X params scope c') body) ps.length tb N js (tCons t1 (tCons t2 (tCons t3 (tCons (tMkLam T fun c' => lamC (mkF X params scope c') body) tNil))))) :=
  pe_callC G hr hg hm hk hb (hsc ▸ ndef_free hdc) (ndef_fr hdc) hjs S hbind hbody (pa_cons h1 (pa_cons h2 (pa_cons h3 (pa_cons (pe_lam TB hcode hmT hnm hu hdef (hsc ▸ ndef_free hdc)) pa_nil) he3) he2) he) hdb he hpl
/-- g(e1, e2, lambda ..) -/
theorem pe_callC2 (G : GvOk X.prog X.w X.K X.mg X.base k kl g fd psG spG) (hr : Room k X.A) (hg : Gl X x) (hm : X.mg x = some (.ref g)) (hk : PySem.W.keepIn X.K (.ref g) = true) (hb : L2.Binds X.K fd psG [])
    {sc : Scope} (hsc : X.env.scope = sc) (hdc : ndefB sc scope fr = true) (hjs : js.map (fun j => X.N[j]?) = fr.map some) (S : NScope N ps fr scope)
    (hbind : ∀ (q : Str) (cl : List (Str × Addr)) (pm cv ctv : Value) (us : List Value), us.length = ps.length → bindArgs (PySem.W.kla_fn "<lambda>" q params body scope cl pm cv ctv) ⟨us, []⟩ = pure (ps.zip us))
    (TB : LamX.TabB X.base X.mg c P) (hcode : X.env.code = .ref c) {nm : Nat → Nat → Str} (hmT : (P, nm) ∈ T) (hnm : nm lpos.line lpos.col = X.env.qual ++ "<lambda>") (hu : ∀ p ∈ T, p.1 = P → p.2 = nm) (hdef : defaultsOf params X.env = ([], []))
    (hbody : ∀ (f c' : Addr) (A : Around) (outer : List Env) (s : Shared) (H : Hp), Room kl (A.deeper (envF (mkF X params scope c') f s.heap.objs.size)) → PE (ncx (L2N.CX X.prog X.w) X.prog X.w X.K X.mg X.base N (mkF X params scope c') f A outer s H E0) body tb)
    (h1 : PE X e1 t1) (h2 : PE X e2 t2) (hdb : (x == ("__debug__" : Str)) = false := by decide)
    (he : starEach [e1, e2, .Lambda params body scope lpos] X.env = (false, eval e1 X.env) :: starEach [e2, .Lambda params body scope lpos] X.env := by rfl) (hpl : (backTo pos (starEach [e2, .Lambda params body scope lpos] X.env)).any (·.1) = false := by rfl)
    (he2 : starEach [e2, .Lambda params body scope lpos] X.env = (false, eval e2 X.env) :: starEach [.Lambda params body scope lpos] X.env := by rfl) :
    PE X (.Call (.Name x p) [e1, e2, .Lambda params body scope lpos] [] pos) (tCallC spG (fun c' => lamC (mkF X params scope c') body) ps.length tb N js (tCons t1 (tCons t2 (tCons (tMkLam T fun c' => lamC (mkF X params scope c') body) tNil)))) :=
  pe_callC G hr hg hm hk hb (hsc ▸ ndef_free hdc) (ndef_fr hdc) hjs S hbind hbody (pa_cons h1 (pa_cons h2 (pa_cons (pe_lam TB hcode hmT hnm hu hdef (hsc ▸ ndef_free hdc)) pa_nil) he2) he) hdb he hpl
end
/-! ### DL -/
/-- a lambda just made -/
def LmS (mk : Addr → ClO) : Sl := .f fun v S As H => ∃ f c', v = .ref f ∧ hmk S As H f = some ((mk c').ob f) ∧ hmk S As H (mk c').c = some (LamX.CodeO (mk c').c (mk c').q)
abbrev ClG := List PyData → PyData → Prop
/-- a closure: what it does to data -/
def ClS (K : PySem.W.Frag) (T : List NdefX.NTab) (f : Addr) (O : ClO) (nl : Nat) (sp : Spc) (g : ClG) : Sl := .f fun v S As H => v = .ref f ∧ hmk S As H f = some (O.ob f) ∧ hmk S As H O.c = some (LamX.CodeO O.c O.q) ∧
  ∀ (M : List MO) (vs : List V) (ds : List PyData) (z : PyData), RM K T S As H M → DpAll K (hmk S As H) vs ds → g ds z → vs.length = nl ∧ ∀ R : VK, KS ⟨K, T, fun _ => E0⟩ S As H (fun s M' => s = .d z ∧ M' = M) R → sp vs H R
theorem visE {K : PySem.W.Frag} {T : List NdefX.NTab} {S : Addr → Bool} {As : Ads} {H : Hp} {M : List MO} {b : Addr} {o : HO} (m : RM K T S As H M) (hb : H b = some o) (ho : isTupO o = true) : hmk S As H b = some o := by
  refine hmk_of ?_ (fun z => ?_) hb
  · cases e : S b with
    | false => rfl
    | true => have := m.st b e _ hb; rw [ho] at this; cases this
  · have := m.ntA z hb; rw [ho] at this; cases this
section
variable {c : Cn} {S : Addr → Bool} {As As1 : Ads} {H H1 : Hp} {M M1 : List MO} {ρ : List Sl} {σ : L2.St} {P P' : Po} {Q : QS} {X : XP}
theorem ev_lam {mk : Addr → ClO} (q : Q (LmS mk) M) : EV c (tMkLam c.T mk) ρ M Q X := fun S As σ H e m R k kx => by
  refine ⟨m.tb, fun f c' H1 eN dm T1 f0 f1 c1 => ?_⟩
  have m1 := rm_ext m eN dm T1
  exact k.at_ (s := LmS mk) q (go_ext eN dm) m1 (fun S' As' H' kk => ⟨f, c', rfl, kk _ _ (visE m1 f1 ((mk c').ext f).1) ((mk c').ext f).2, kk _ _ (visE m1 c1 rfl) rfl⟩)
theorem ev_act {i nl : Nat} {f : Addr} {O : ClO} {sp : Spc} {g : ClG} {ta : TA} {ds : List PyData} {z : PyData} (hx : ρ[i]? = some (ClS c.K c.T f O nl sp g)) (h : Da c ta ρ M ds) (hg : g ds z) (q : Q (.d z) M) : EV c (tAct i f O nl sp ta) ρ M Q X := fun S As σ H e m R k kx => by
  obtain ⟨v, e1, r⟩ := e.at_ i _ hx (fun z => nomatch z)
  obtain ⟨ev, hf, hc, hs⟩ := r S As H (Kp.refl _)
  subst ev
  refine ⟨e1, (hmk_some hf).2.2, h S As σ H e m _ (fun ss M' As' vs H' ⟨e2, e3⟩ g' m' rr => ?_) KX.none⟩
  subst e2; subst e3
  obtain ⟨_, hf', hc', hs'⟩ := r S As' H' g'.kpm
  obtain ⟨hl, hs''⟩ := hs' M' vs ds z m' (slrs_d rr) hg
  exact ⟨hl, (hmk_some hf').2.2, (hmk_some hc').2.2, hs'' R fun s M2 As2 v H2 ⟨e4, e5⟩ g2 m2 r2 => by subst e4; subst e5; exact k _ _ _ _ _ q (g'.trans g2) m2 r2⟩
theorem dv_act {i nl : Nat} {f : Addr} {O : ClO} {sp : Spc} {g : ClG} {ta : TA} {ds : List PyData} {z : PyData} (hx : ρ[i]? = some (ClS c.K c.T f O nl sp g)) (h : Da c ta ρ M ds) (hg : g ds z) : Dv c (tAct i f O nl sp ta) ρ M z := ev_act hx h hg ⟨rfl, rfl⟩
abbrev WdC := (ClG → Sl) → Wd
def spGW (K : PySem.W.Frag) (T : List NdefX.NTab) (W : WdC) : Addr → ClO → Nat → Spc → Sp := fun f O nl sp => spW K T (W (ClS K T f O nl sp))
theorem slrs_snoc : ∀ {vs : List V} {ss : List Sl} {s : Sl}, SlRs c S As H vs (ss ++ [s]) → ∃ vs0 v, vs = vs0 ++ [v] ∧ SlRs c S As H vs0 ss ∧ SlR c.K S As H v s
  | _, [], s, h => by
    obtain ⟨v, rfl, r⟩ := slrs1 h
    exact ⟨[], v, rfl, .nil, r⟩
  | _, a :: ss, s, h => by
    have h' : Paired _ _ (a :: (ss ++ [s])) := h
    cases h' with
    | cons x t =>
      obtain ⟨vs0, v, e, r1, r2⟩ := slrs_snoc (ss := ss) t
      subst e
      exact ⟨_ :: vs0, v, rfl, .cons x r1, r2⟩
theorem slrs_app : ∀ {vs ws : List V} {ss ts : List Sl}, SlRs c S As H vs ss → SlRs c S As H ws ts → SlRs c S As H (vs ++ ws) (ss ++ ts)
  | _, _, _, _, .nil, h => h
  | _, _, _, _, .cons a b, h => .cons a (slrs_app b h)
theorem re_startF {K : PySem.W.Frag} {N : List Str} {vs : List V} {ws : List (Option V)} {ds caps : List PyData} (h : DpAll K (hmk S As H) vs ds) (hl : ws.length = caps.length) (hN : ds.length + caps.length ≤ N.length)
    (hc : ∀ (i : Nat) (d : PyData), caps[i]? = some d → ∃ v, ws[i]? = some (some v) ∧ Dp K (hmk S As H) v d) : RE K S As H (startF N vs ws) (ds.map .d ++ (caps.map .d ++ unS (N.length - ds.length - caps.length))) := by
  have hv := dpAll_length h
  unfold startF
  refine ⟨by simp [unS_len, hv, hl], fun i s e n => ?_⟩
  by_cases h1 : i < ds.length
  · rw [List.getElem?_append_left (by rw [List.length_map]; exact h1), List.getElem?_map] at e
    cases hd : ds[i]? with
    | none => rw [hd] at e; cases e
    | some d =>
      rw [hd] at e
      obtain rfl := Option.some.inj e
      obtain ⟨v, h2, h3⟩ := dpAll_get h hd
      refine ⟨v, ?_, h3⟩
      rw [List.getElem?_append_left (by rw [List.length_map, hv]; exact h1), List.getElem?_map, h2]
      rfl
  · rw [List.getElem?_append_right (by rw [List.length_map]; omega), List.length_map] at e
    rw [List.getElem?_append_right (by rw [List.length_map]; omega), List.length_map, hv]
    by_cases h2 : i - ds.length < caps.length
    · rw [List.getElem?_append_left (by rw [List.length_map]; exact h2), List.getElem?_map] at e
      cases hd : caps[i - ds.length]? with
      | none => rw [hd] at e; cases e
      | some d =>
        rw [hd] at e
        obtain rfl := Option.some.inj e
        obtain ⟨v, h3, h4⟩ := hc _ d hd
        exact ⟨v, by rw [List.getElem?_append_left (by omega)]; exact h3, h4⟩
    · rw [List.getElem?_append_right (by rw [List.length_map]; omega)] at e
      exact absurd (unS_get e) n
/-- g(.., lambda ..): the lambda's body by data -/
theorem ev_callC {W : WdC} {mk : Addr → ClO} {nl : Nat} {tb : TE} {Nl : List Str} {js : List Nat} {ta : TA} (caps : List PyData) (g : ClG) (hcap : js.map (fun j => ρ[j]?) = caps.map fun d => some (Sl.d d)) (hN : nl + caps.length ≤ Nl.length)
    (hb : ∀ (ds : List PyData) (z : PyData) (M' : List MO), g ds z → ds.length = nl ∧ Dv ⟨c.K, c.T, fun _ => E0⟩ tb (ds.map .d ++ (caps.map .d ++ unS (Nl.length - ds.length - caps.length))) M' z)
    (h : EA c ta ρ M (fun ss M1 => ∃ as : List PyData, ss = as.map .d ++ [LmS mk] ∧ ∀ C : ClG → Sl, W C (as.map .d ++ [C g]) [] (fun s M' => Q (shS M1.length s) (M1 ++ M')) X0) X) : EV c (tCallC (spGW c.K c.T W) mk nl tb Nl js ta) ρ M Q X := fun S As σ H e m R k kx =>
  h S As σ H e m _ (fun ss M1 As1 vs H1 ⟨as, es, hW⟩ g1 m1 r1 => by
    subst es
    obtain ⟨vs0, v, rfl, r0, rl⟩ := slrs_snoc r1
    obtain ⟨f, c', rfl, hf, hc⟩ := rl S As1 H1 (Kp.refl _)
    refine ⟨f, c', (hmk_some hf).2.2, (hmk_some hc).2.2, ?_⟩
    have hlen : js.length = caps.length := by have := congrArg List.length hcap; simpa using this
    have clo : SlR c.K (hidS S As1) [] H1 (.ref f) (ClS c.K c.T f (mk c') nl (fun vs' H' Q' => tb (startF Nl vs' (js.map (slotAt σ))) H' Q') g) := fun S' As' H' kk => by
      rw [hidS_nil] at kk
      refine ⟨rfl, kk _ _ hf ((mk c').ext f).2, kk _ _ hc rfl, fun M' vs ds z m' dp hg => ?_⟩
      obtain ⟨hl, hd⟩ := hb ds z M' hg
      refine ⟨by rw [dpAll_length dp]; exact hl, fun R' kR => hd S' As' _ H' ?_ m' R' kR KX.none⟩
      refine re_startF dp (by rw [List.length_map]; exact hlen) (by omega) fun i d hi => ?_
      have hj : (js.map fun j => ρ[j]?)[i]? = some (some (.d d)) := by rw [hcap, List.getElem?_map, hi]; rfl
      rw [List.getElem?_map] at hj
      cases ej : js[i]? with
      | none => rw [ej] at hj; cases hj
      | some j =>
        rw [ej] at hj
        have hj2 : ρ[j]? = some (.d d) := Option.some.inj hj
        obtain ⟨v, e1, r⟩ := e.at_ j _ hj2 (fun z => nomatch z)
        refine ⟨v, by rw [List.getElem?_map, ej]; show some (slotAt σ j) = _; rw [slotAt_of e1], ?_⟩
        exact dp_kp (g1.kpm.trans kk) d v r
    refine ⟨hidS S As1, [], as.map .d ++ [ClS c.K c.T f (mk c') nl (fun vs' H' Q' => tb (startF Nl vs' (js.map (slotAt σ))) H' Q') g], [], _, _, slrs_app (c := ⟨c.K, c.T, fun _ => E0⟩) (slrs_in (c := c) r0 (fun s hs => by obtain ⟨d, _, rfl⟩ := List.mem_map.mp hs; trivial)) (.cons clo .nil), rm_in m1, hW _, fun s M' q As' v H' g m' r => ?_, fun C M' q As' H' g m' => q.elim⟩
    obtain ⟨g2, m2, r2⟩ := go_out m1 g m'
    exact k _ _ _ v H' q (g1.trans g2) m2 (r2 r)) kx
end
section
variable {P : Program} {w : World} {K : PySem.W.Frag} {mg : Str → Option Value} {base : Heap} {T : List NdefX.NTab}
/-- a def that gets a closure keeps its word -/
theorem gv_of {x qual : Str} {st : Stmt} {g : Addr} {fd : FuncData} {N ps : List Str} {k kl : Nat} {W : WdC} (Fg : Fun K x qual st g fd) (S : FnScope N ps (defScope st)) (len : ∀ C ρ M Q X, W C ρ M Q X → ρ.length = ps.length) (hN : ps.length ≤ N.length)
    (hbody : ∀ (cdv : Value) (A : Around) (outer : List Env) (s : Shared) (H : Hp) (f : Addr) (O : ClO) (nl : Nat) (sp : Spc), Room k (A.deeper (envOfC qual (defScope st) s.heap.objs.size g cdv)) → LamRun P w K mg base kl f O nl sp (frs outer) s H →
      ∃ t, PSs (cxOf (L2N.CX P w) P w K mg base N qual (defScope st) g cdv A outer s H E0) (defBody st) t ∧
        ∀ ρ M Q X, W (ClS K T f O nl sp) ρ M Q X → EX ⟨K, T, fun _ => E0⟩ t (ρ ++ unS (N.length - ρ.length)) M { nx := fun _ M' => Q (.d .none) M', rt := Q, xp := fun C _ M' => X C M' }) :
    GvOk P w K mg base (k + 1) kl g fd ps (spGW K T W) := by
  have hlen : ∀ f O nl sp vs H Q E, spGW K T W f O nl sp vs H Q E → vs.length = ps.length := fun f O nl sp vs H Q E h => by
    obtain ⟨S, As, ρ, M, Q0, X0, r, m, w, _⟩ := h
    rw [slrs_len r, len _ _ _ _ _ w]
  obtain ⟨oc, od, kV, doc, pm, an, cdv, ct, osl, rfl, lk, hcd⟩ := Fg.ex
  refine ⟨hlen, fun A outer s H args us vs Q f O nl sp hr e0 hb r L h => ?_⟩
  refine LamX.run_ofS lk hcd S hr e0 hb r (hlen _ _ _ _ _ _ _ _ h) fun hr' => ?_
  obtain ⟨t, ht, ht'⟩ := hbody cdv A outer s H f O nl sp hr' L
  refine ⟨t, ht, ?_⟩
  obtain ⟨S, As, ρ, M, Q0, X0, r, m, w, kq, kx⟩ := h
  have hl := len _ _ _ _ _ w
  refine ht' ρ M _ _ w S As _ H (re_start r (by rw [hl]; exact hN)) m _ (fun ρ' M' As' σ' H' q g e m' => ?_) (fun s M' As' v H' q g m' r => ?_) (fun _ _ _ _ _ q => q.elim) (fun _ _ _ _ _ q => q.elim) (fun C ρ' M' As' σ' H' q g e m' => ?_)
  · exact kq _ _ q As' .non H' g m' .non
  · exact kq _ _ q As' v H' g m' r
  · exact kx _ _ q As' H' g m'
end
/-! ### a def within a def, handed on by its name -/
section
variable {X : Cx} {pins : List (Addr × Obj)} {σ : L2.St} {H : Hp} {s : Shared}
theorem nd_mk {T : List NdefX.NTab} {nm : Nat → Nat → Str} {c P : Addr} {name : Str} {params : Arguments} {body : List Stmt} {scope : Scope} {pos : Pos} {E : Value → Shared → Prop} {Q : Value → Shared → Prop} (I : Inv X pins σ H s) (TB : LamX.TabB X.base X.mg c P) (hcode : X.env.code = .ref c)
    (hm : (P, nm) ∈ T) (hn : nm pos.line pos.col = X.env.qual ++ name) (hu : ∀ p ∈ T, p.1 = P → p.2 = nm) (hT : TabsN T H) (hfree : ∀ y ∈ scope.names, y.2 = .free → ∃ c, X.env.cells.lookup y.1 = some c)
    (h : ∀ (f c' : Addr) (H1 : Hp) (s' : Shared), Inv X pins σ H1 s' → LamX.ExtN H H1 → Dm H H1 → TabsN T H1 → H f = none → H1 f = some (FnO f ⟨name, X.env.qual ++ name, params, body, scope, cloFrom X.env.cells scope.names [], c'⟩) → H1 c' = some (LamX.CodeO c' (X.env.qual ++ name)) → Q (.ref f) s') :
    wpAny (model X.prog X.w) X.A (makeFunction name (X.env.qual ++ name) params (.stmts body) scope X.env [] [] [] pos pos.line) Q E s := by
  obtain ⟨ps, hP, ht, ha⟩ := (show TabN H P nm from hT _ hm)
  have bP : s.heap.BuiltinsAt X.mg P := TB.bm.keeps I.bk
  have hP' : s.heap.get? P = some { cls := .none, data := .fields ps } := I.hok P _ hP
  cases hc : codeAmong pos ps.toList with
  | none =>
    refine PySem.W.makeFunction_K (mg := X.mg) (c := c) (P := P) (ps := ps) (closure_ok hfree) I.ok.glob (I.mod.glob.keeps I.bk) hcode (TB.code.keeps I.bk) hP' ht hc TB.gP bP fun c' ctv doc h' tk hx hge hlt hrec htb => ?_
    obtain ⟨c2, oc, vs, t, e2, hoc, hd, hv⟩ := hrec
    cases e2
    have nC : H c' = none := I.hok.fresh hge
    have I1 := LamX.inv_table (t' := tk) (more := #[rawInt pos.line, rawInt pos.col, .ref c']) (h' := h') I hP (fun b o hb e => hx b o hb e) htb hge ⟨oc, vs, t, hoc, hd, hv⟩
    have hE : LamX.ExtN H (upd (upd H P (.tbl (ps ++ #[rawInt pos.line, rawInt pos.col, .ref c']))) c' (LamX.CodeO c' (X.env.qual ++ name))) := fun b o e n => by
      rw [upd_ne (ne_of_none e nC), upd_ne (fun z => n ps (Option.some.inj (e.symm.trans (by rw [z]; exact hP))))]
      exact e
    have eL : (ps ++ #[rawInt pos.line, rawInt pos.col, .ref c']).toList = ps.toList ++ [rawInt pos.line, rawInt pos.col, .ref c'] := by simp
    have T1 : TabsN T (upd (upd H P (.tbl (ps ++ #[rawInt pos.line, rawInt pos.col, .ref c']))) c' (LamX.CodeO c' (X.env.qual ++ name))) := fun p hp => by
      by_cases hb : p.1 = P
      · rw [hu p hp hb, hb]
        refine ⟨_, by rw [upd_ne (ne_of_none hP nC), upd_same], by rw [eL]; exact PySem.TriplesOk_snoc _ _ _ _ ht, fun p' cv hcv => ?_⟩
        rw [eL] at hcv
        rcases among_app2 _ ht hcv with z | ⟨z, z1, z2⟩
        · obtain ⟨c0, e1, e2⟩ := ha p' cv z
          exact ⟨c0, e1, hE _ _ e2 LamX.codeO_ne⟩
        · refine ⟨c', z, ?_⟩
          rw [← z1, ← z2, hn]
          exact upd_same
      · obtain ⟨ps', a1, a2, a3⟩ := hT p hp
        refine ⟨ps', by rw [upd_ne (ne_of_none a1 nC), upd_ne hb]; exact a1, a2, fun p' cv hcv => ?_⟩
        obtain ⟨c0, e1, e2⟩ := a3 p' cv hcv
        exact ⟨c0, e1, hE _ _ e2 LamX.codeO_ne⟩
    have nF := I1.hok.fresh (Nat.le_refl _)
    have I2 := inv_fn (F := ⟨name, X.env.qual ++ name, params, body, scope, cloFrom X.env.cells scope.names [], c'⟩) (t' := tk) (doc := doc) (pm := (X.mg "__name__").getD .none) (ctv := ctv) I1 rfl
    refine h h'.objs.size c' _ _ I2 (fun b o e n => ?_) (fun b u hb => ?_) (T1.ext fun b o e => ?_) (I.hok.fresh (Nat.le_trans hge (Nat.le_of_lt hlt))) upd_same ?_
    · have e1 := hE b o e n
      exact (upd_ne (ne_of_none e1 nF)).trans e1
    · have n1 : b ≠ h'.objs.size := ne_of_none hb (I.hok.fresh (Nat.le_trans hge (Nat.le_of_lt hlt)))
      rw [upd_ne n1, upd_ne (ne_of_none hb nC)]
      by_cases h2 : b = P
      · rw [h2, upd_same]
        rw [h2, hP] at hb
        cases hb
        exact ⟨_, rfl, rfl⟩
      · rw [upd_ne h2]; exact ⟨u, hb, rfl⟩
    · exact (upd_ne (ne_of_none e nF)).trans e
    · exact (upd_ne (Nat.ne_of_lt hlt)).trans upd_same
  | some cv =>
    obtain ⟨c', e, hco⟩ := ha pos cv hc
    subst e
    rw [hn] at hco
    refine PySem.W.makeFunction_hit (mg := X.mg) (c := c) (P := P) (ps := ps) (closure_ok hfree) I.ok.glob (I.mod.glob.keeps I.bk) hcode (TB.code.keeps I.bk) hP' ht hc bP fun ctv doc h' tk hx hsz => ?_
    have I1 : Inv X pins σ H { s with heap := h', toks := tk } := I.kept hx
    have nF : H h'.objs.size = none := I1.hok.fresh (Nat.le_refl _)
    have I2 := inv_fn (F := ⟨name, X.env.qual ++ name, params, body, scope, cloFrom X.env.cells scope.names [], c'⟩) (t' := tk) (doc := doc) (pm := (X.mg "__name__").getD .none) (ctv := ctv) I1 rfl
    refine h h'.objs.size c' _ _ I2 (fun b o e n => ?_) (fun b u hb => ?_) (hT.ext fun b o e => ?_) nF upd_same ?_
    · exact (upd_ne (ne_of_none e nF)).trans e
    · exact ⟨u, (upd_ne (ne_of_none hb nF)).trans hb, rfl⟩
    · exact (upd_ne (ne_of_none e nF)).trans e
    · exact (upd_ne (ne_of_none hco nF)).trans hco
end
abbrev mkN (X : Cx) (name : Str) (params : Arguments) (body : List Stmt) (scope : Scope) (c' : Addr) : NF := ⟨name, X.env.qual ++ name, params, body, scope, cloFrom X.env.cells scope.names [], c'⟩
/-- def name(..): .. in a def's body -/
def tNd (T : List NdefX.NTab) (i : Nat) (mk : Addr → ClO) : TS := fun D σ H => TabsN T H ∧ ∀ (f c' : Addr) (H1 : Hp), LamX.ExtN H H1 → Dm H H1 → TabsN T H1 → H f = none → H1 f = some ((mk c').ob f) → H1 (mk c').c = some (LamX.CodeO (mk c').c (mk c').q) → D.nx (σ.set i (some (.ref f))) H1
section
variable {X : Cx}
theorem ps_nd {T : List NdefX.NTab} {nm : Nat → Nat → Str} {c P : Addr} {name : Str} {params : Arguments} {body : List Stmt} {scope sc : Scope} {fr : List Str} {pos : Pos} {i : Nat} (TB : LamX.TabB X.base X.mg c P) (hcode : X.env.code = .ref c) (hm : (P, nm) ∈ T) (hn : nm pos.line pos.col = X.env.qual ++ name) (hu : ∀ p ∈ T, p.1 = P → p.2 = nm)
    (hsc : X.env.scope = sc) (hdc : ndefB sc scope fr = true) (hd0 : params.defaults = []) (hk0 : params.kw_defaults = []) (ha : annTrees params none X.env = [])
    (hN : X.N.Nodup) (hi : X.N[i]? = some name) (hx : Loc X.env.scope name) (hf : X.fn name = true ∨ X.env.scope.names.lookup name = some .local) :
    PS X (.FunctionDef name params body [] none [] scope none name pos) (tNd T i fun c' => fnC (mkN X name params body scope c')) := by
  refine ⟨fun pins s σ H D I h => ?_⟩
  obtain ⟨hT, h⟩ := h
  have hq : qualnameIn X.env name name = X.env.qual ++ name := by
    have hk : X.env.kindOf name = some .local ∨ X.env.kindOf name = some .cell := hx
    unfold qualnameIn
    rcases hk with k | k <;> rw [k] <;> first | rfl | exact if_neg (by decide)
  refine PySem.W.nestDef_K hd0 hk0 ha ?_
  rw [hq]
  have hfree : ∀ y ∈ scope.names, y.2 = .free → X.env.scope.names.lookup y.1 = some .cell ∨ X.env.scope.names.lookup y.1 = some .free := hsc ▸ ndef_free hdc
  have hfr : ∀ y ∈ scope.names, y.2 = .free → ∃ c, X.env.cells.lookup y.1 = some c := fun y hy e => (hfree y hy e).elim (fun z => I.ok.has _ (.inl z)) fun z => I.ok.has _ (.inr z)
  refine nd_mk I TB hcode hm hn hu hT hfr fun f c' H1 s' I1 eN dm T1 f0 f1 c1 => ?_
  exact store_ok I1 hN hi hx (v := .ref f) rfl (fun s'' J => ⟨_, H1, J, h f c' H1 eN dm T1 f0 f1 c1⟩) hf
end
def tBody (ts : TS) : TE := fun σ H Q => ts { nx := fun _ H' => Q .non H', rt := Q } σ H
theorem lamrun_fn {P : Program} {w : World} {K : PySem.W.Frag} {mg : Str → Option Value} {base : Heap} {k : Nat} {f : Addr} {F : NF} {N ps fr : List Str} {fs : List Addr} {s : Shared} {H : Hp} {ws : List (Option V)} {ts : TS} (S : NScope N ps fr F.scope) (C : CellsAt F.cl fr ws s.heap H)
    (hbind : ∀ (doc pm ctv : Value) (us : List Value), us.length = ps.length → bindArgs (F.fd doc pm ctv) ⟨us, []⟩ = pure (ps.zip us))
    (hbody : ∀ (A : Around) (outer : List Env) (s : Shared) (H : Hp), Room k (A.deeper (envF F f s.heap.objs.size)) → PSs (ncx (L2N.CX P w) P w K mg base N F f A outer s H E0) F.body ts) :
    LamRun P w K mg base k f (fnC F) ps.length (fun vs H Q => tBody ts (startF N vs ws) H Q) fs s H := by
  intro A outer s1 H1 us vs Q hr e0 un hf hc r hl q
  obtain ⟨od, sl, doc, pm, ctv, of1⟩ := fnO_at e0.hok hf
  have lim : s1.heap.NoLimit := e0.mod.nolimit.keeps fun b o e => (e0.bs b o e).1
  refine codeAny_call_function hr.depth of1 rfl S.co S.gen rfl (codeO_at e0.hok hc) ?_
  rw [hbind doc pm ctv us (by rw [← r.length]; exact hl)]
  refine wpAny_pure (wpAny_newFunctionEnv S.nocell (fun ⟨n, _⟩ hy => S.par n (List.of_mem_zip hy).1) (fun h₁ hns hsb => ⟨lim.fresh _ hsb, ?_⟩) S.kind)
  show codeAny _ _ (.func F.body (envF F f s1.heap.objs.size)) _ _
  refine codeAny_func ?_
  have kp : ∀ b o, s1.heap.get? b = some o → h₁.get? b = some o := fun b o e => hsb.extBut b o (Nat.ne_of_lt (Heap.lt_size e)) (Heap.get?_push_of_some _ e)
  have J : Inv (ncx (L2N.CX P w) P w K mg base N F f A outer s1 H1 E0) [] (startF N vs ws) H1 { s1 with heap := h₁, toks := s1.toks + (ps.zip us).length } := inv_startN S hr.hd e0 hl r (cells_laterU C un) hns kp
  refine wpAny_mono ((hbody A outer s1 H1 (hr.deeper _)).run [] _ _ H1 _ J q) (fun fl s' hs => ?_) fun e s' hs => hs
  have fin : ∀ {σ' : L2.St} {H' : Hp} {v : V} {u : Value}, Inv (ncx (L2N.CX P w) P w K mg base N F f A outer s1 H1 E0) [] σ' H' s' → L2.RelV v u → Q v H' → CE outer P w H1 s1 Q u s' :=
    fun {σ' H' v u} J rv q => ⟨v, H', J.os, J.bare, J.base, J.hok, rv, q⟩
  cases fl with
  | ret u =>
    obtain ⟨v, σ', H', J, rv, q⟩ := hs
    exact fin J rv q
  | next =>
    obtain ⟨σ', H', J, q⟩ := hs
    exact fin (v := V.non) (u := Value.none) J rfl q
  | brk =>
    obtain ⟨_, _, _, q⟩ := hs
    exact False.elim q
  | cont =>
    obtain ⟨_, _, _, q⟩ := hs
    exact False.elim q
section
variable {X : Cx} {CX : CXT} {k kl : Nat} {g : Addr} {fd : FuncData} {psG : List Str} {spG : Addr → ClO → Nat → Spc → Sp} {ts : TS} {N ps fr : List Str} {js : List Nat} {x name : Str} {e : Expr} {es : List Expr} {t : TA} {p pos : Pos} {scope sc : Scope} {params : Arguments} {body : List Stmt}
/-- g(.., name): the def name is of this frame; handed on -/
theorem pe_callF (G : GvOk X.prog X.w X.K X.mg X.base k kl g fd psG spG) (hr : Room k X.A) (hg : Gl X x) (hm : X.mg x = some (.ref g)) (hk : PySem.W.keepIn X.K (.ref g) = true) (hb : L2.Binds X.K fd psG [])
    (hsc : X.env.scope = sc) (hdc : ndefB sc scope fr = true) (hjs : js.map (fun j => X.N[j]?) = fr.map some) (S : NScope N ps fr scope)
    (hbind : ∀ (q : Str) (cl : List (Str × Addr)) (c : Addr) (doc pm ctv : Value) (us : List Value), us.length = ps.length → bindArgs ((⟨name, q, params, body, scope, cl, c⟩ : NF).fd doc pm ctv) ⟨us, []⟩ = pure (ps.zip us))
    (hbody : ∀ (f c' : Addr) (A : Around) (outer : List Env) (s : Shared) (H : Hp), Room kl (A.deeper (envF (mkN X name params body scope c') f s.heap.objs.size)) → PSs (ncx (L2N.CX X.prog X.w) X.prog X.w X.K X.mg X.base N (mkN X name params body scope c') f A outer s H E0) body ts)
    (ha : PA X (e :: es) t) (hdb : (x == ("__debug__" : Str)) = false := by decide)
    (he : starEach (e :: es) X.env = (false, eval e X.env) :: starEach es X.env := by rfl) (hpl : (backTo pos (starEach es X.env)).any (·.1) = false := by rfl) :
    PE X (.Call (.Name x p) (e :: es) [] pos) (tCallC spG (fun c' => fnC (mkN X name params body scope c')) ps.length (tBody ts) N js t) := by
  refine ⟨fun pins s σ H Q I h => ?_⟩
  refine wpAny_Call_Name_kw (ld_glob I hg hm ?_ hdb)
  refine PySem.W.callWith_K (h₀ := X.base) I.ok.mod.kin hk (thn (ha.run pos pins s σ H _ I h) fun us s2 ⟨vs, H2, I2, r, q⟩ => ⟨I2.kIn, ?_⟩) he hpl
  obtain ⟨f, c', h1, h2, q⟩ := q
  have hl : us.length = psG.length := by rw [← r.length]; exact G.len _ _ _ _ _ _ _ _ q
  have C : CellsAt (mkN X name params body scope c').cl fr (js.map (slotAt σ)) s2.heap H2 := cells_of I2 (Caps.made I2.ok (hsc ▸ ndef_free hdc) (ndef_fr hdc) hjs)
  have L : LamRun X.prog X.w X.K X.mg X.base kl f (fnC (mkN X name params body scope c')) ps.length (fun vs' H' Q' => tBody ts (startF N vs' (js.map (slotAt σ))) H' Q') (frs X.stack) s2 H2 :=
    lamrun_fn (N := N) (ps := ps) (fr := fr) S C (fun doc pm ctv us hu => hbind _ _ _ _ _ _ us hu) (fun A outer s H hr => hbody f c' A outer s H hr)
  show wpAny _ _ (call (.ref g) us) _ _ _
  refine wpAny_call (codeAny_mono (G.run X.A X.stack s2 H2 ⟨us, []⟩ us vs Q f _ _ _ hr I2.env0 (by have := hb s2 us I2.kIn (by rw [List.append_nil]; exact hl); rw [List.append_nil] at this; exact this) r L q) fun r s' hq => ?_)
  cases r with
  | error e => exact passN pins σ H2 s2 e s' I2 hq
  | ok fl =>
    cases fl with
    | ret u => exact I2.after hq
    | next => exact False.elim hq
    | brk => exact False.elim hq
    | cont => exact False.elim hq
end
section
variable {c : Cn} {S : Addr → Bool} {As As1 : Ads} {H H1 : Hp} {M M1 : List MO} {ρ : List Sl} {σ : L2.St} {P P' : Po} {Q : QS} {X : XP}
theorem ex_nd {i : Nat} {mk : Addr → ClO} (q : P.nx (ρ.set i (LmS mk)) M) : EX c (tNd c.T i mk) ρ M P := fun S As σ H e m D k1 k2 k3 k4 k5 => by
  refine ⟨m.tb, fun f c' H1 eN dm T1 f0 f1 c1 => ?_⟩
  have m1 := rm_ext m eN dm T1
  have g : Go As H As H1 := go_ext eN dm
  exact k1 _ M As _ _ q g ((e.go g).set i (s := LmS mk) (fun S' As' H' kk => ⟨f, c', rfl, kk _ _ (visE m1 f1 ((mk c').ext f).1) ((mk c').ext f).2, kk _ _ (visE m1 c1 rfl) rfl⟩)) m1
theorem dv_body {ts : TS} {z : PyData} (h : EX c ts ρ M { rt := fun s M' => s = .d z ∧ M' = M }) : Dv c (tBody ts) ρ M z := fun S As σ H e m R k kx =>
  h S As σ H e m _ (fun _ _ _ _ _ q => q.elim) k (fun _ _ _ _ _ q => q.elim) (fun _ _ _ _ _ q => q.elim) (fun _ _ _ _ _ _ q => q.elim)
end
end DL

set_option Elab.async false
set_option linter.all false
set_option autoImplicit false
set_option maxRecDepth 100000
set_option maxHeartbeats 2000000
/-! DL: while. -/
namespace DL
open PySem PySem.Spec PyProof.Rows L2 PySem.W
section
variable {c : Cn} {M : List MO} {ρ : List Sl} {P : Po}
theorem ex_while {tc : TT} {tb : TS} (I : Nat → List Sl → List MO → Prop) (h0 : ∃ m, I m ρ M)
    (hs : ∀ m ρ' M', I m ρ' M' → ET c tc ρ' M' (fun b M1 => (b = true → EX c tb ρ' M1 { nx := fun ρ2 M2 => ∃ m' ρ3, m' < m ∧ Wk ρ2 ρ3 ∧ I m' ρ3 M2, ct := fun ρ2 M2 => ∃ m' ρ3, m' < m ∧ Wk ρ2 ρ3 ∧ I m' ρ3 M2, bk := P.nx, rt := P.rt, xp := P.xp }) ∧ (b = false → P.nx ρ' M1)) (fun C M' => P.xp C ρ' M')) :
    EX c (tWhile tc tb) ρ M P := fun S As σ H e m D k1 k2 k3 k4 k5 => by
  obtain ⟨n0, hI0⟩ := h0
  refine ⟨fun n σ' H' => ∃ As' ρ' M', I n ρ' M' ∧ Go As H As' H' ∧ RE c.K S As' H' σ' ρ' ∧ RM c.K c.T S As' H' M', ⟨n0, As, ρ, M, hI0, .refl _ _, e, m⟩, ?_⟩
  rintro n σ' H' ⟨As', ρ', M', hI, g, e', m'⟩
  refine hs n ρ' M' hI S As' σ' H' e' m' _ (fun b M1 As1 H1 q g1 m1 => ?_) ((k5.go g).at_ e')
  have gg := g.trans g1
  cases b with
  | false =>
    show D.nx σ' H1
    exact (k1.go gg).here (q.2 rfl) (e'.go g1) m1
  | true =>
    show ∃ N : L2.St → Hp → Prop, _
    have again : KE c S As1 H1 (fun ρ2 M2 => ∃ m' ρ3, m' < n ∧ Wk ρ2 ρ3 ∧ I m' ρ3 M2) (fun σ2 H2 => ∃ m', m' < n ∧ ∃ As2 ρ2 M2, I m' ρ2 M2 ∧ Go As H As2 H2 ∧ RE c.K S As2 H2 σ2 ρ2 ∧ RM c.K c.T S As2 H2 M2) := fun ρ2 M2 As2 σ2 H2 ⟨m', ρ3, lt, w, hI2⟩ g2 e2 m2 =>
      ⟨m', lt, As2, ρ3, M2, hI2, gg.trans g2, e2.wk w, m2⟩
    exact ⟨_, fun σ2 H2 hN => hN, q.1 rfl S As1 σ' H1 (e'.go g1) m1 _ again (k2.go gg) (k1.go gg) again (k5.go gg)⟩
end
end DL

set_option Elab.async false
set_option linter.all false
set_option autoImplicit false
set_option maxRecDepth 100000
set_option maxHeartbeats 4000000
/-! DL: zip of three lists; the two halves of a pair of new lists. -/
namespace L2
open PySem PySem.Spec PyProof.Rows
/-- three lists as they stand at each turn, the items in new tuples -/
def Itz3 (K : PySem.W.Frag) (a b c : Addr) : It :=
  ⟨fun i H => ∃ (xs ys zs : List V) (x y z : V), SqL K H a xs ∧ SqL K H b ys ∧ SqL K H c zs ∧ xs[i]? = some x ∧ ys[i]? = some y ∧ zs[i]? = some z,
    fun i H v H' => ∃ T x y z, v = .ref T ∧ H T = none ∧ H' = upd H T (.tup [x, y, z]) ∧ (∀ xs, SqL K H a xs → xs[i]? = some x) ∧ (∀ ys, SqL K H b ys → ys[i]? = some y) ∧ ∀ zs, SqL K H c zs → zs[i]? = some z,
    fun i H => ∃ xs ys zs : List V, SqL K H a xs ∧ SqL K H b ys ∧ SqL K H c zs ∧ i ≤ xs.length ∧ i ≤ ys.length ∧ i ≤ zs.length ∧ (i = xs.length ∨ i = ys.length ∨ i = zs.length)⟩
theorem turn_zip3 {P : Program} {w : World} {K : PySem.W.Frag} {elts : List Expr} {kk : Nat} {tpos : Pos} {a b c z TI TO i1 i2 i3 : Addr} (D : ZipSep3 z TI TO i1 i2 i3 [i1, a] [i2, b] [i3, c]) :
    Turn P w K (.Tuple elts kk tpos) (Itz3 K a b c) [z, TI, TO, i1, i2, i3] z (fun i h => IsZip h z TI TO .none ∧ IsTupOf3 h TI (.ref i1) (.ref i2) (.ref i3) ∧ (∃ x y q, IsTupOf3 h TO x y q) ∧ h.IsListIter i1 a i ∧ h.IsListIter i2 b i ∧ h.IsListIter i3 c i) where
  mem := by simp
  obj := fun i h st d hc => by
    obtain ⟨hz, hTI, ⟨x, y, q, hTO⟩, ⟨o1, e1, _, d1⟩, ⟨o2, e2, _, d2⟩, ⟨o3, e3, _, d3⟩⟩ := st
    have e' : d = z ∨ d = TI ∨ d = TO ∨ d = i1 ∨ d = i2 ∨ d = i3 := by simpa using hc
    rcases e' with q | q | q | q | q | q
    · rw [q]; exact ⟨_, hz, fun v q => nomatch q⟩
    · rw [q]; exact ⟨_, hTI, fun v q => nomatch q⟩
    · rw [q]; exact ⟨_, hTO, fun v q => nomatch q⟩
    · rw [q]; exact ⟨o1, e1, fun v q => by rw [d1] at q; cases q⟩
    · rw [q]; exact ⟨o2, e2, fun v q => by rw [d2] at q; cases q⟩
    · rw [q]; exact ⟨o3, e3, fun v q => by rw [d3] at q; cases q⟩
  keep := fun i h h' st k => by
    obtain ⟨hz, hTI, ⟨x, y, q, hTO⟩, h1, h2, h3⟩ := st
    exact ⟨k z (by simp) _ hz, k TI (by simp) _ hTI, ⟨x, y, q, k TO (by simp) _ hTO⟩, h1.at fun o q => k i1 (by simp) o q, h2.at fun o q => k i2 (by simp) o q, h3.at fun o q => k i3 (by simp) o q⟩
  item := by
    intro X hP hw hK hc i pins s σ H E I hf st hg
    subst hP hw hK
    obtain ⟨hz, hTI, ⟨x0, y0, z0, hTO⟩, h1, h2, h3⟩ := st
    obtain ⟨xs, ys, zs, x, y, q, hqx, hqy, hqz, hx, hy, hq⟩ := hg
    obtain ⟨its, rv, p, _⟩ := I.list hqx
    obtain ⟨its2, rv2, p2, _⟩ := I.list hqy
    obtain ⟨its3, rv3, p3, _⟩ := I.list hqz
    have lx := (List.getElem?_eq_some_iff.mp hx).1
    have ly := (List.getElem?_eq_some_iff.mp hy).1
    have lz := (List.getElem?_eq_some_iff.mp hq).1
    have m1 := rv.length
    have m2 := rv2.length
    have m3 := rv3.length
    obtain ⟨u, hu, ru⟩ := rv.get hx
    obtain ⟨u2, hu2, ru2⟩ := rv2.get hy
    obtain ⟨u3, hu3, ru3⟩ := rv3.get hq
    have hzl : z < s.heap.objs.size := Heap.lt_size hz
    have hh : X.A.in1.handled = none := I.ok.hd hc
    have na : a ≠ i1 := fun e => by
      obtain ⟨o, e1, e2, _⟩ := h1
      obtain ⟨o', e3, e4, _⟩ := p.isList
      rw [e] at e3; rw [e1] at e3; cases e3; rw [e2] at e4; simp at e4
    have nb : b ≠ i2 := fun e => by
      obtain ⟨o, e1, e2, _⟩ := h2
      obtain ⟨o', e3, e4, _⟩ := p2.isList
      rw [e] at e3; rw [e1] at e3; cases e3; rw [e2] at e4; simp at e4
    have nc : c ≠ i3 := fun e => by
      obtain ⟨o, e1, e2, _⟩ := h3
      obtain ⟨o', e3, e4, _⟩ := p3.isList
      rw [e] at e3; rw [e1] at e3; cases e3; rw [e2] at e4; simp at e4
    refine wpAny_pyNext_zipD3_item (i := i) D (Draws.list hh i1 a na its.toArray) (Draws.list hh i2 b nb its2.toArray) (Draws.list hh i3 c nc its3.toArray) hz hTI hTO ⟨h1, p.isList⟩ ⟨h2, p2.isList⟩ ⟨h3, p3.isList⟩ (by simp; omega) (by simp; omega) (by simp; omega) fun v1 v2 v3 h' tk hv1 hv2 hv3 z' TO' s1' s2' s3' hT hsz hk => ?_
    obtain rfl : v1 = u := Option.some.inj (hv1.symm.trans (by simpa using hu))
    obtain rfl : v2 = u2 := Option.some.inj (hv2.symm.trans (by simpa using hu2))
    obtain rfl : v3 = u3 := Option.some.inj (hv3.symm.trans (by simpa using hu3))
    refine ⟨_, rfl, wpAny_letOwnedTupleGo_zip (s := { s with heap := h', toks := tk }) z' fun h'' z'' sb => ?_⟩
    have hT2 : h''.get? s.heap.objs.size = some { cls := .type "tuple", data := .seq #[v1, v2, v3] } := (sb.2 _ (Nat.ne_of_gt hzl)).trans hT
    have new : ObjOk X.prog X.w (upd H s.heap.objs.size (.tup [x, y, q])) h'' s.heap.objs.size (.tup [x, y, q]) :=
      ⟨by show 3 ≤ sizeLine; decide, [v1, v2, v3], .cons ru (.cons ru2 (.cons ru3 .nil)), ⟨_, hT2, rfl, _, rfl⟩⟩
    have I1 : Inv X pins σ (upd H s.heap.objs.size (.tup [x, y, q])) { s with heap := h'', toks := tk } :=
      I.turnedNew (t' := tk) (ch := [z, TI, TO, i1, i2, i3]) (fun c o hb q => (sb.2 c (fun q' => hb (by simp [q']))).trans (hk c o (fun q' => hb (by simp [q'])) (fun q' => hb (by simp [q'])) (fun q' => hb (by simp [q'])) (fun q' => hb (by simp [q'])) (fun q' => hb (by simp [q'])) q)) hf (Nat.le_refl _) new
    refine ⟨.ref s.heap.objs.size, _, I1, rfl, ⟨_, x, y, q, rfl, I.hok.fresh (Nat.le_refl _), rfl, fun l hl => by rw [I.list_inj hl hqx]; exact hx, fun l hl => by rw [I.list_inj hl hqy]; exact hy, fun l hl => by rw [I.list_inj hl hqz]; exact hq⟩, ⟨z'', ?_, ⟨v1, v2, v3, ?_⟩, ?_, ?_, ?_⟩, fun c hcm => ?_⟩
    · exact (sb.2 _ D.TIz).trans (hk _ _ D.TIz D.TITO D.TIi1 D.TIi2 D.TIi3 hTI)
    · exact (sb.2 _ D.TOz).trans TO'
    · exact s1'.1.at fun o q => (sb.2 _ D.zi1.symm).trans q
    · exact s2'.1.at fun o q => (sb.2 _ D.zi2.symm).trans q
    · exact s3'.1.at fun o q => (sb.2 _ D.zi3.symm).trans q
    · have hlt : c < s.heap.objs.size := by
        have e' : c = z ∨ c = TI ∨ c = TO ∨ c = i1 ∨ c = i2 ∨ c = i3 := by simpa using hcm
        rcases e' with q | q | q | q | q | q
        · rw [q]; exact hzl
        · rw [q]; exact Heap.lt_size hTI
        · rw [q]; exact Heap.lt_size hTO
        · rw [q]; obtain ⟨_, e1, _⟩ := h1; exact Heap.lt_size e1
        · rw [q]; obtain ⟨_, e2, _⟩ := h2; exact Heap.lt_size e2
        · rw [q]; obtain ⟨_, e2, _⟩ := h3; exact Heap.lt_size e2
      rw [upd_ne (Nat.ne_of_lt hlt)]
      exact (hf c hcm).1
  done := by
    intro X hP hw hK hc i pins s σ H E I hf st hg
    subst hP hw hK
    obtain ⟨hz, hTI, ⟨x0, y0, z0, hTO⟩, h1, h2, h3⟩ := st
    obtain ⟨xs, ys, zs, hqx, hqy, hqz, lx, ly, lz, hend⟩ := hg
    obtain ⟨its, rv, p, _⟩ := I.list hqx
    obtain ⟨its2, rv2, p2, _⟩ := I.list hqy
    obtain ⟨its3, rv3, p3, _⟩ := I.list hqz
    have m1 := rv.length
    have m2 := rv2.length
    have m3 := rv3.length
    have hh : X.A.in1.handled = none := I.ok.hd hc
    have na : a ≠ i1 := fun e => by
      obtain ⟨o, e1, e2, _⟩ := h1
      obtain ⟨o', e3, e4, _⟩ := p.isList
      rw [e] at e3; rw [e1] at e3; cases e3; rw [e2] at e4; simp at e4
    have nb : b ≠ i2 := fun e => by
      obtain ⟨o, e1, e2, _⟩ := h2
      obtain ⟨o', e3, e4, _⟩ := p2.isList
      rw [e] at e3; rw [e1] at e3; cases e3; rw [e2] at e4; simp at e4
    have nc : c ≠ i3 := fun e => by
      obtain ⟨o, e1, e2, _⟩ := h3
      obtain ⟨o', e3, e4, _⟩ := p3.isList
      rw [e] at e3; rw [e1] at e3; cases e3; rw [e2] at e4; simp at e4
    exact wpAny_pyNext_zipD3_end (i := i) D (Draws.list hh i1 a na its.toArray) (Draws.list hh i2 b nb its2.toArray) (Draws.list hh i3 c nc its3.toArray) hz hTI hTO ⟨h1, p.isList⟩ ⟨h2, p2.isList⟩ ⟨h3, p3.isList⟩ (by simp; omega) (by simp; omega) (by simp; omega) (by simp; omega) fun h' tk hk => ⟨rfl, I.turnedL (t' := tk) (ch := [z, TI, TO, i1, i2, i3]) (fun c o hb q =>
      hk c o (fun q' => hb (by simp [q'])) (fun q' => hb (by simp [q'])) (fun q' => hb (by simp [q'])) (fun q' => hb (by simp [q'])) (fun q' => hb (by simp [q'])) q) hf⟩
  self := fun A i s Q E st h => wpAny_pyIter_zip st.1 h
def iZip3 (K : PySem.W.Frag) (ta : TA) : TI := fun σ H R => ta σ H fun vs H1 => ∃ a b c xs ys zs, vs = [.ref a, .ref b, .ref c] ∧ SqL K H1 a xs ∧ SqL K H1 b ys ∧ SqL K H1 c zs ∧ R (Itz3 K a b c) H1
theorem pi_zip3 {X : Cx} {e e2 e3 : Expr} {ta : TA} {p pos tpos : Pos} {elts : List Expr} {kk : Nat} (hg : Gl X "zip") (hm : X.mg "zip" = none) (ha : PA X [e, e2, e3] ta)
    (hs : starEach [e, e2, e3] X.env = (false, eval e X.env) :: starEach [e2, e3] X.env := by rfl) (hpl : (backTo pos (starEach [e2, e3] X.env)).any (·.1) = false := by rfl) :
    PI X (.Tuple elts kk tpos) (.Call (.Name "zip" p) [e, e2, e3] [] pos) (iZip3 X.K ta) := by
  refine ⟨fun pins s σ H R I h => ?_⟩
  refine Call_ (ld_blt I hg hm PyProof.Rows.boot_zip (PyProof.Rows.callWith_type1 (thn (ha.run pos pins s σ H _ I h) fun us s1 ⟨vs, H1, I1, r1, q1⟩ => ?_) hs hpl))
  obtain ⟨a, b, c, xs, ys, zs, ex, hqx, hqy, hqz, q⟩ := q1
  subst ex
  cases r1 with
  | cons r rr =>
    cases rr with
    | cons r' rr =>
      cases rr with
      | cons r'' rr =>
        cases rr
        cases r
        cases r'
        cases r''
        obtain ⟨its, rv, p1, _⟩ := I1.list hqx
        obtain ⟨its2, rv2, p2, _⟩ := I1.list hqy
        obtain ⟨its3, rv3, p3, _⟩ := I1.list hqz
        have la : a < s1.heap.objs.size := p1.lt
        have lb : b < s1.heap.objs.size := p2.lt
        have lc : c < s1.heap.objs.size := p3.lt
        refine zip_begins3 (begins_list a its.toArray) (begins_list b its2.toArray) (begins_list c its3.toArray) p1.isList p2.isList p3.isList fun h' hz hTI hTO h1 h2 h3 hsz hk => wpAny_pyIter_zip hz ?_
        have I2 : Inv X pins σ H1 { s1 with heap := h' } := I1.kept (t' := s1.toks) hk
        have hS : ZipSep3 (s1.heap.objs.size + 5) (s1.heap.objs.size + 3) (s1.heap.objs.size + 4) s1.heap.objs.size (s1.heap.objs.size + 1) (s1.heap.objs.size + 2) [s1.heap.objs.size, a] [s1.heap.objs.size + 1, b] [s1.heap.objs.size + 2, c] :=
          zip_sep3 (fp1 := [a]) (fp2 := [b]) (fp3 := [c]) (fun x hx => by simp at hx; rw [hx]; exact la) (fun x hx => by simp at hx; rw [hx]; exact lb) (fun x hx => by simp at hx; rw [hx]; exact lc)
        refine ⟨s1.heap.objs.size + 5, [s1.heap.objs.size + 5, s1.heap.objs.size + 3, s1.heap.objs.size + 4, s1.heap.objs.size, s1.heap.objs.size + 1, s1.heap.objs.size + 2], _, _, H1, rfl, I2, turn_zip3 hS, ⟨hz, hTI, ⟨_, _, _, hTO⟩, ⟨_, h1, rfl, rfl⟩, ⟨_, h2, rfl, rfl⟩, ⟨_, h3, rfl, rfl⟩⟩, fun d hcm => ?_, q⟩
        have e' : d = s1.heap.objs.size + 5 ∨ d = s1.heap.objs.size + 3 ∨ d = s1.heap.objs.size + 4 ∨ d = s1.heap.objs.size ∨ d = s1.heap.objs.size + 1 ∨ d = s1.heap.objs.size + 2 := by simpa using hcm
        have hle : s1.heap.objs.size ≤ d := by
          rcases e' with z | z | z | z | z | z
          · rw [z]; exact Nat.le_add_right _ _
          · rw [z]; exact Nat.le_add_right _ _
          · rw [z]; exact Nat.le_add_right _ _
          · rw [z]; exact Nat.le_refl _
          · rw [z]; exact Nat.le_add_right _ _
          · rw [z]; exact Nat.le_add_right _ _
        exact I1.fpOk hle (I1.hok.fresh hle)
theorem kPiZip3 {K : PySem.W.Frag} {X : Cx} {e e2 e3 : Expr} {ta : TA} {p pos tpos : Pos} {elts : List Expr} {kk : Nat} (hK : X.K = K) (hg : Gl X "zip") (hm : X.mg "zip" = none) (ha : PA X [e, e2, e3] ta)
    (hs : starEach [e, e2, e3] X.env = (false, eval e X.env) :: starEach [e2, e3] X.env := by rfl) (hpl : (backTo pos (starEach [e2, e3] X.env)).any (·.1) = false := by rfl) :
    PI X (.Tuple elts kk tpos) (.Call (.Name "zip" p) [e, e2, e3] [] pos) (iZip3 K ta) := hK ▸ pi_zip3 hg hm ha hs hpl
end L2
namespace DL
open PySem PySem.Spec PyProof.Rows L2 PySem.W
section
variable {c : Cn} {S : Addr → Bool} {As As1 As2 : Ads} {H H1 : Hp} {M M1 M2 : List MO} {ρ : List Sl} {σ : L2.St} {P P' : Po} {ta tb tc te : TE} {tt tu : TT} {t u : TS} {s : Sl} {v w : V} {Q Q' : QS} {X : XP} {R : VK}
def trs (as bs cs : List PyData) : List (List PyData) := ((as.zip bs).zip cs).map fun p => [p.1.1, p.1.2, p.2]
theorem trs_len {as bs cs : List PyData} (h1 : bs.length = as.length) (h2 : cs.length = as.length) : (trs as bs cs).length = as.length := by
  unfold trs; rw [List.length_map, List.length_zip, List.length_zip]; omega
theorem trs_get {as bs cs : List PyData} {i : Nat} {es : List PyData} (h : (trs as bs cs)[i]? = some es) : ∃ a b d, as[i]? = some a ∧ bs[i]? = some b ∧ cs[i]? = some d ∧ es = [a, b, d] := by
  unfold trs at h
  rw [List.getElem?_map] at h
  cases e : ((as.zip bs).zip cs)[i]? with
  | none => rw [e] at h; cases h
  | some p =>
    rw [e] at h
    have e1 := List.getElem?_zip_eq_some.mp e
    have e2 := List.getElem?_zip_eq_some.mp e1.1
    exact ⟨_, _, _, e2.1, e2.2, e1.2, (Option.some.inj h).symm⟩
theorem walk_zip3 {a b d : Addr} {vs ws us : List V} {ds es fs : List PyData} {j k l : Nat} {kp : List MO → Prop} (h : SqL c.K (hmk S As H) a vs) (r : DpAll c.K (hmk S As H) vs ds) (h' : SqL c.K (hmk S As H) b ws) (r' : DpAll c.K (hmk S As H) ws es)
    (h'' : SqL c.K (hmk S As H) d us) (r'' : DpAll c.K (hmk S As H) us fs) (n1 : es.length = ds.length) (n2 : fs.length = ds.length) :
    Walk c (Itz3 c.K a b d) (gTup c.K 3 (gCons (gName j) (gCons (gName k) (gCons (gName l) gNil)))) S As H [j, k, l] (trs ds es fs) kp := fun S2 As2 H2 M2 h1 g m _ => by
  have kk := later h1 g
  have hq := hmk_sqL (kk.sqL h)
  have hq' := hmk_sqL (kk.sqL h')
  have hq'' := hmk_sqL (kk.sqL h'')
  have hl := dpAll_length r
  have hl' := dpAll_length r'
  have hl'' := dpAll_length r''
  refine ⟨⟨vs, ws, us, hq, hq', hq'', by rw [trs_len n1 n2]; omega, by rw [trs_len n1 n2]; omega, by rw [trs_len n1 n2]; omega, .inl (by rw [trs_len n1 n2]; omega)⟩, fun i us2 hi => ?_⟩
  obtain ⟨d1, d2, d3, hd1, hd2, hd3, rfl⟩ := trs_get hi
  obtain ⟨x, hx, rx⟩ := dpAll_get r hd1
  obtain ⟨y, hy, ry⟩ := dpAll_get r' hd2
  obtain ⟨z, hz, rz⟩ := dpAll_get r'' hd3
  refine ⟨⟨vs, ws, us, x, y, z, hq, hq', hq'', hx, hy, hz⟩, fun q H3 ⟨T, x', y', z', ez, nT, e3, hx', hy', hz'⟩ σ2 Q q => ?_⟩
  subst ez; subst e3
  have e1 : x' = x := Option.some.inj ((hx' vs hq).symm.trans hx)
  have e2 : y' = y := Option.some.inj ((hy' ws hq').symm.trans hy)
  have e3 : z' = z := Option.some.inj ((hz' us hq'').symm.trans hz)
  subst e1; subst e2; subst e3
  have g := go_new (o := .tup [x', y', z']) m nT
  exact ⟨T, [x', y', z'], rfl, .inl (.inl upd_same), rfl, gN_run (js := [j, k, l]) rfl (q [x', y', z'] g (m.new nT) (.cons (dp_kp g.kpm _ _ (dp_kp kk _ _ rx)) (.cons (dp_kp g.kpm _ _ (dp_kp kk _ _ ry)) (.cons (dp_kp g.kpm _ _ (dp_kp kk _ _ rz)) .nil))) rfl)⟩
theorem it_zip3 {j k l : Nat} {t : TA} {Q : List (List PyData) → List MO → Prop} (h : EA c t ρ M (fun ss M1 => ∃ ds es fs, ss = [.d (.list ds), .d (.list es), .d (.list fs)] ∧ es.length = ds.length ∧ fs.length = ds.length ∧ Q (trs ds es fs) M1) X) :
    IT c (iZip3 c.K t) (gTup c.K 3 (gCons (gName j) (gCons (gName k) (gCons (gName l) gNil)))) ρ M [j, k, l] kp0 Q X := fun S As σ H e m R kr kx =>
  h S As σ H e m _ (fun s M1 As1 vs H1 ⟨ds, es, fs, ee, n1, n2, q⟩ g1 m1 r => by
    subst ee
    cases r with
    | cons r1 r2 =>
      cases r2 with
      | cons r2 r3 =>
        cases r3 with
        | cons r3 r4 =>
          cases r4
          obtain ⟨a, vs, rfl, h1, h2⟩ := dp_lst r1
          obtain ⟨b, ws, rfl, h3, h4⟩ := dp_lst r2
          obtain ⟨d, us, rfl, h5, h6⟩ := dp_lst r3
          exact ⟨a, b, d, vs, ws, us, rfl, hmk_sqL h1, hmk_sqL h3, hmk_sqL h5, kr _ M1 As1 _ H1 q g1 m1 (walk_zip3 h1 h2 h3 h4 h5 h6 n1 n2)⟩) kx
theorem dit_zip3 {j k l : Nat} {ds es fs : List PyData} {items : List (List PyData)} (h : Dv c ta ρ M (.list ds)) (h' : Dv c tb ρ M (.list es)) (h'' : Dv c tc ρ M (.list fs)) (n1 : es.length = ds.length) (n2 : fs.length = ds.length) (e : trs ds es fs = items) :
    IT c (iZip3 c.K (tCons ta (tCons tb (tCons tc tNil)))) (gTup c.K 3 (gCons (gName j) (gCons (gName k) (gCons (gName l) gNil)))) ρ M [j, k, l] kp0 (fun it M1 => it = items ∧ M1 = M) X0 := it_zip3 (ea_da (da_cons h (da_cons h' (da_cons h'' da_nil))) ⟨ds, es, fs, rfl, n1, n2, e, rfl⟩)
/-- the first of a new pair of lists, the second given up -/
theorem dl_pr0 {ds es : List PyData} (h : EV c te ρ M (fun s M1 => s = .pr (.inr M.length) (.inr (M.length + 1)) ∧ M1 = M ++ [.lst ds, .lst es]) X0) : Dl c (tOp (rIxT c.K) te (tC (.int 0))) ρ M ds :=
  ev_lose (ev_pair0 (EV.imp h (fun s M1 ⟨e, e2⟩ => ⟨e, [.lst ds, .lst es], 0, .lst ds, e2, rfl, rfl, rfl, rfl⟩) fun _ _ z => z))
theorem dl_pr1 {ds es : List PyData} (h : EV c te ρ M (fun s M1 => s = .pr (.inr M.length) (.inr (M.length + 1)) ∧ M1 = M ++ [.lst ds, .lst es]) X0) : Dl c (tOp (rIxT c.K) te (tC (.int 1))) ρ M es :=
  ev_lose (ev_pair1 (EV.imp h (fun s M1 ⟨e, e2⟩ => ⟨e, [.lst ds, .lst es], 1, .lst es, e2, rfl, rfl, rfl, rfl⟩) fun _ _ z => z))
end
end DL

set_option Elab.async false
set_option linter.all false
set_option autoImplicit false
set_option maxRecDepth 100000
set_option maxHeartbeats 4000000
/-! DL: a name that goes over a written tuple of defs, and its call; chains of == over data. -/
namespace L2
open PySem PySem.Spec PyProof.Rows
/-- a def that may raise, with its promise -/
structure HeldX (P : Program) (w : World) (K : PySem.W.Frag) (mg : Str → Option Value) (base : Heap) (k : Nat) (p : Addr × Sp) : Prop where
  ex : ∃ (k' : Nat) (fd : FuncData) (ps : List Str), k' ≤ k ∧ FnOk P w K mg base (L2N.CX P w) k' p.1 fd ps p.2 ∧ PySem.W.keepIn K (.ref p.1) = true ∧ Binds K fd ps []
/-- the i-th slot holds one of the defs of L -/
def tCallV (i : Nat) (L : List (Addr × Sp)) (t : TA) : TE := fun σ H Q => ∃ f sp, σ[i]? = some (some (.ref f)) ∧ (f, sp) ∈ L ∧ t σ H fun vs H1 => sp (vs ++ []) H1 Q E0
section
variable {X : Cx} {k i : Nat} {x : Str} {p pos : Pos} {e : Expr} {es : List Expr} {t : TA}
theorem pe_callV {L : List (Addr × Sp)} (A : ∀ p ∈ L, HeldX X.prog X.w X.K X.mg X.base k p) (hr : Room k X.A) (hN : X.N[i]? = some x) (hv : Vis X.env.scope x) (ha : PA X (e :: es) t)
    (hdb : (x == ("__debug__" : Str)) = false := by decide) (hcd : (x == ("__classdict__" : Str)) = false := by decide)
    (he : starEach (e :: es) X.env = (false, eval e X.env) :: starEach es X.env := by rfl) (hpl : (backTo pos (starEach es X.env)).any (·.1) = false := by rfl) : PE X (.Call (.Name x p) (e :: es) [] pos) (tCallV i L t) := by
  refine ⟨fun pins s σ H Q I h => ?_⟩
  obtain ⟨f, sp, hs, hS, ht⟩ := h
  obtain ⟨k', fd, ps, hk', F, hk, hb⟩ := (A _ hS).ex
  exact (pe_callL (i := i) (f := f) (sp := sp) (dvs := []) (E := E0) F (hr.mono hk') hN hv hk hb .nil passN ha hdb hcd he hpl).run pins s σ H Q I ⟨hs, ht⟩
/-- ints, where the numbers may grow -/
def ipM : TIp := fun x y H Q => ∃ i j, x = .int i ∧ y = .int j ∧ CMulW i j ∧ Q (.int (i * j)) H
theorem ip_mulW : PIp X .Mult ipM := by
  intro pins s σ H x y v u Q I r1 r2 h
  obtain ⟨i, j, e1, e2, hc, q⟩ := h
  subst e1; subst e2
  obtain ⟨t, rfl⟩ := r1
  obtain ⟨t', rfl⟩ := r2
  exact PyProof.Rows.imul_int ⟨.int _, H, I.tok _, ⟨_, rfl⟩, q⟩ hc.ok
end
end L2
namespace DL
open PySem PySem.Spec PyProof.Rows L2 PySem.W
section
variable {c : Cn} {S : Addr → Bool} {As As1 As2 : Ads} {H H1 : Hp} {M M1 M2 : List MO} {ρ : List Sl} {σ : L2.St} {P P' : Po} {ta tb tc te : TE} {tt tu : TT} {t u : TS} {s : Sl} {v w : V} {Q Q' : QS} {X : XP} {R : VK}
theorem ev_callV {W : Wd} {ta : TA} {i : Nat} {f : Addr} {L : List (Addr × Sp)} (hs : ρ[i]? = some (.v (.ref f))) (hL : (f, spW c.K c.T W) ∈ L)
    (h : EA c ta ρ M (fun ss M1 => (∀ s ∈ ss, notM s) ∧ W ss [] (fun s M' => Q (shS M1.length s) (M1 ++ M')) X0) X) : EV c (tCallV i L ta) ρ M Q X := fun S As σ H e m R k kx => by
  obtain ⟨v, e1, r1⟩ := e.at_ i _ hs (fun z => nomatch z)
  cases r1
  exact ⟨f, _, e1, hL, ev_call0 (E := E0) h S As σ H e m R k kx⟩
/-- for over a written tuple of values that are no data -/
theorem ex_forV {tb' : TS} {t : TA} {j : Nat} {vs : List V} (ht : ∀ (σ : L2.St) (H : Hp) (Q : List V → Hp → Prop), Q vs H → t σ H Q) (hl : vs.length ≤ 1000) (I : Nat → List Sl → List MO → Prop) (h0 : I 0 ρ M)
    (hs : ∀ i v ρ' M', vs[i]? = some v → I i ρ' M' → EX c tb' (ρ'.set j (.v v)) M' { nx := fun ρ2 M2 => ∃ ρ3, Wk ρ2 ρ3 ∧ I (i + 1) ρ3 M2, ct := fun ρ2 M2 => ∃ ρ3, Wk ρ2 ρ3 ∧ I (i + 1) ρ3 M2, bk := P.nx, rt := P.rt, xp := P.xp })
    (hd : ∀ ρ' M', I vs.length ρ' M' → P.nx ρ' M') : EX c (tFor (iTup c.K (tTup t)) (gName j) tb') ρ M P := fun S As σ H e m D k1 k2 k3 k4 k5 =>
  ht σ H _ ⟨Nat.le_trans hl (by decide), fun p hp => by
    have g1 : Go As H As (upd H p (.tup vs)) := go_new m hp
    have m1 := m.new (o := .tup vs) hp
    have hpA : p ∉ As := fun z => by
      obtain ⟨i, hi⟩ := List.mem_iff_getElem?.mp z
      have hlt := (List.getElem?_eq_some_iff.mp hi).1
      have hM : i < M.length := by rw [← m.len]; exact hlt
      have := m.at_ i p _ hi (List.getElem?_eq_getElem hM)
      generalize M[i] = mo at this
      cases mo with
      | lst ds => obtain ⟨_, vs', h1, _⟩ := this; rw [hp] at h1; cases h1
      | dd fz kv => obtain ⟨_, vs', h1, _⟩ := this; rw [hp] at h1; cases h1
      | ho o => have h1 : H p = some o := this.1; rw [hp] at h1; cases h1
      | P φ => obtain ⟨o, h1, _⟩ := this; rw [hp] at h1; cases h1
    refine ⟨p, rfl, ⟨vs, .inl (.inl upd_same)⟩, fun i n σ' H' => n = vs.length - i ∧ i ≤ vs.length ∧ ∃ As' ρ' M', I i ρ' M' ∧ Go As (upd H p (.tup vs)) As' H' ∧ RE c.K S As' H' σ' ρ' ∧ RM c.K c.T S As' H' M', ⟨_, rfl, Nat.zero_le _, As, ρ, M, h0, .refl _ _, e.go g1, m1⟩, ?_⟩
    rintro i n σ' H' ⟨rfl, hi, As', ρ', M', hI, g', e', m'⟩
    have gg := g1.trans g'
    have hq : SqT c.K H' p vs := .inl (.inl ((g'.kp p _ upd_same hpA).2 rfl))
    by_cases hlt : i < vs.length
    · have hx : vs[i]? = some vs[i] := List.getElem?_eq_getElem hlt
      refine .inr ⟨⟨vs, _, hq, hx⟩, fun σ2 H2 => ∃ As2 ρ2 M2, I (i + 1) ρ2 M2 ∧ Go As (upd H p (.tup vs)) As2 H2 ∧ RE c.K S As2 H2 σ2 ρ2 ∧ RM c.K c.T S As2 H2 M2, fun σ2 H2 hN => ⟨vs.length - (i + 1), by omega, rfl, hlt, hN⟩, fun x H3 y => ?_⟩
      obtain ⟨e3, ey⟩ := y
      subst e3
      obtain rfl : vs[i] = x := Option.some.inj (hx.symm.trans (ey vs hq))
      have body := hs i _ ρ' M' hx hI
      have again : KE c S As' H3 (fun ρ2 M2 => ∃ ρ3, Wk ρ2 ρ3 ∧ I (i + 1) ρ3 M2) (fun σ2 H2 => ∃ As2 ρ2 M2, I (i + 1) ρ2 M2 ∧ Go As (upd H p (.tup vs)) As2 H2 ∧ RE c.K S As2 H2 σ2 ρ2 ∧ RM c.K c.T S As2 H2 M2) := fun ρ2 M2 As2 σ2 H2 ⟨ρ3, w, hI2⟩ g2 e2 m2 =>
        ⟨As2, ρ3, M2, hI2, g'.trans g2, e2.wk w, m2⟩
      exact body S As' _ H3 (e'.set j rfl) m' _ again (k2.go gg) (k1.go gg) again (k5.go gg)
    · have ei : i = vs.length := by omega
      subst ei
      exact .inl ⟨⟨vs, hq, Nat.le_refl _⟩, (k1.go gg).here (hd ρ' M' hI) e' m'⟩⟩
theorem ex_augM {i : Nat} {a : Int} (hx : ρ[i]? = some (.d (.int a))) (h : EV c te ρ M (fun s M' => ∃ b, s = .d (.int b) ∧ CMulW a b ∧ P.nx (ρ.set i (.d (.int (a * b)))) M') (fun C M' => P.xp C ρ M')) : EX c (tAug i te ipM) ρ M P := fun S As σ H e m D k1 k2 k3 k4 k5 => by
  obtain ⟨v, e1, r⟩ := e.at_ i _ hx (fun z => nomatch z)
  cases r
  refine ⟨_, e1, h S As σ H e m _ (fun s M' As' v H' ⟨b, eb, hc, q⟩ g m' r => ?_) (k5.at_ e)⟩
  subst eb
  cases r
  exact ⟨a, b, rfl, rfl, hc, k1 _ M' As' _ H' q g ((e.go g).set i (s := .d (.int (a * b))) (Dp.int _)) m'⟩
/-- lo, lo + c, .. -/
def rgcD (lo k : Int) (n : Nat) : List PyData := (List.range n).map fun i => .int (lo + (i : Nat) * k)
theorem rgcD_len (lo k : Int) (n : Nat) : (rgcD lo k n).length = n := by unfold rgcD; rw [List.length_map, List.length_range]
theorem rgcD_get {lo k : Int} {n i : Nat} {d : PyData} (h : (rgcD lo k n)[i]? = some d) : i < n ∧ d = .int (lo + (i : Nat) * k) := by
  unfold rgcD at h
  rw [List.getElem?_map] at h
  by_cases hi : i < n
  · rw [List.getElem?_range hi] at h
    exact ⟨hi, (Option.some.inj h).symm⟩
  · rw [List.getElem?_eq_none (by rw [List.length_range]; omega)] at h
    cases h
theorem walk_rngC {lo k : Int} {n : Nat} {j : Nat} {kp : List MO → Prop} : Walk c (Itc lo k n) (gName j) S As H [j] (ones (rgcD lo k n)) kp := fun S2 As2 H2 M2 h1 g m _ => by
  refine ⟨by rw [ones_len, rgcD_len]; exact Nat.le_refl _, fun i es hi => ?_⟩
  obtain ⟨d, hd, rfl⟩ := ones_get hi
  obtain ⟨hj, rfl⟩ := rgcD_get hd
  refine ⟨hj, fun y H3 ⟨e3, ey⟩ σ2 Q q => ?_⟩
  subst e3; subst ey
  exact go_same m (.int _) q
theorem it_rng3 {j : Nat} {t : TA} {Q : List (List PyData) → List MO → Prop} (h : EA c t ρ M (fun ss M1 => ∃ (lo hi k : Int) (n : Nat), ss = [.d (.int lo), .d (.int hi), .d (.int k)] ∧ RgC lo hi k n ∧ Q (ones (rgcD lo k n)) M1) X) : IT c (iRng3 t) (gName j) ρ M [j] kp0 Q X := fun S As σ H e m R k kx =>
  h S As σ H e m _ (fun s M1 As1 vs H1 ⟨lo, hi, kk, n, es, hc, q⟩ g1 m1 r => by
    subst es
    cases r with
    | cons r1 r2 =>
      cases r2 with
      | cons r2 r3 =>
        cases r3 with
        | cons r3 r4 =>
          cases r4
          cases r1
          cases r2
          cases r3
          exact ⟨lo, hi, kk, n, rfl, hc, k _ M1 As1 _ H1 q g1 m1 walk_rngC⟩) kx
end
end DL

set_option Elab.async false
set_option linter.all false
set_option autoImplicit false
set_option maxRecDepth 100000
set_option maxHeartbeats 4000000
/-! DL: the call of an element of a written list of defs, in a try suite. -/
namespace L2
open PySem PySem.Spec PyProof.Rows
/-- the value of te is one of the defs of L -/
def tCallE (te : TE) (L : List (Addr × Sp)) (E : St → XK) (t : TA) : TE := fun σ H Q => te σ H fun v H1 => ∃ f sp, v = .ref f ∧ (f, sp) ∈ L ∧ t σ H1 fun vs H2 => sp vs H2 Q (E σ)
section
variable {X : Cx} {k : Nat} {pos : Pos} {fe e : Expr} {es : List Expr} {t : TA} {te : TE} {E : St → XK}
theorem pe_callE {L : List (Addr × Sp)} (A : ∀ p ∈ L, HeldX X.prog X.w X.K X.mg X.base k p) (hr : Room k X.A) (hf : PE X fe te) (hx : ∀ σ, PassesAt (L2N.CX X.prog X.w) X σ (E σ)) (ha : PA X (e :: es) t)
    (hev : eval (.Call fe (e :: es) [] pos) X.env = (do callWith pos (← eval fe X.env) [] (backTo pos (starEach (e :: es) X.env)) (backToKw pos (keywordEach [] X.env))) := by rfl)
    (he : starEach (e :: es) X.env = (false, eval e X.env) :: starEach es X.env := by rfl) (hpl : (backTo pos (starEach es X.env)).any (·.1) = false := by rfl) : PE X (.Call fe (e :: es) [] pos) (tCallE te L E t) := by
  refine ⟨fun pins s σ H Q I h => ?_⟩
  refine Call_ (thn (hf.run pins s σ H _ I h) fun u s1 ⟨v, H1, I1, r1, q1⟩ => ?_) hev
  obtain ⟨f, sp, rfl, hS, ht⟩ := q1
  obtain ⟨k', fd, ps, hk', F, hk, hb⟩ := (A _ hS).ex
  cases r1
  refine PySem.W.callWith_K (h₀ := X.base) I1.ok.mod.kin hk (thn (ha.run pos pins s1 σ H1 _ I1 ht) fun us s2 ⟨vs, H2, I2, r, q⟩ => ⟨I2.kIn, ?_⟩) he hpl
  exact run_fnS F (hr.mono hk') hb (hx σ) I2 r q
end
end L2
namespace DL
open PySem PySem.Spec PyProof.Rows L2 PySem.W
section
variable {c : Cn} {S : Addr → Bool} {As As1 As2 : Ads} {H H1 : Hp} {M M1 M2 : List MO} {ρ : List Sl} {σ : L2.St} {P P' : Po} {ta tb tc te ti : TE} {s : Sl} {v w : V} {Q Q' : QS} {X : XP} {R : VK}
theorem ev_callIx {W : Wd} {tl ta : TA} {vs : List V} {i : Nat} {f : Addr} {L : List (Addr × Sp)} {E : L2.St → XK} (ht : ∀ (σ : L2.St) (H : Hp) (Q : List V → Hp → Prop), Q vs H → tl σ H Q) (hl : vs.length ≤ 1000) (hi : Dv c ti ρ M (.int (i : Int))) (hv : vs[i]? = some (.ref f))
    (hL : (f, spW c.K c.T W) ∈ L) (hE : E = c.E) (h : EA c ta ρ M (fun ss M1 => (∀ s ∈ ss, notM s) ∧ W ss [] (fun s M' => Q (shS M1.length s) (M1 ++ M')) (fun C M' => X C (M1 ++ M'))) X) :
    EV c (tCallE (tOp (rIxL c.K) (tLst tl) ti) L E ta) ρ M Q X := fun S As σ H e m R k kx =>
  ht σ H _ ⟨Nat.le_trans hl (by decide), fun p hp => by
    have g1 : Go As H As (upd H p (.lst vs)) := go_new m hp
    have m1 := m.new (o := .lst vs) hp
    have hpA : p ∉ As := fun z => by
      obtain ⟨i, hi⟩ := List.mem_iff_getElem?.mp z
      have hlt := (List.getElem?_eq_some_iff.mp hi).1
      have hM : i < M.length := by rw [← m.len]; exact hlt
      have := m.at_ i p _ hi (List.getElem?_eq_getElem hM)
      generalize M[i] = mo at this
      cases mo with
      | lst ds => obtain ⟨_, vs', h1, _⟩ := this; rw [hp] at h1; cases h1
      | dd fz kv => obtain ⟨_, vs', h1, _⟩ := this; rw [hp] at h1; cases h1
      | ho o => have h1 : H p = some o := this.1; rw [hp] at h1; cases h1
      | P φ => obtain ⟨o, h1, _⟩ := this; rw [hp] at h1; cases h1
    refine hi S As σ _ (e.go g1) m1 _ (fun s M2 As2 w H2 ⟨es, e2⟩ g2 m2 r2 => ?_) KX.none
    subst es; subst e2
    cases r2
    have hq : SqL c.K H2 p vs := .inl (.inl ((g2.kp p _ upd_same hpA).2 rfl))
    exact ⟨p, vs, i, _, rfl, rfl, hq, at_of rfl hv, f, _, rfl, hL, ev_callS hE h S As2 σ H2 ((e.go g1).go g2) m2 R ((k.go g1).go g2) ((kx.go g1).go g2)⟩⟩
end
end DL

set_option Elab.async false
set_option linter.all false
set_option autoImplicit false
set_option maxRecDepth 100000
set_option maxHeartbeats 4000000
/-! zip of two lists while an exception is handled. -/
namespace L2
open PySem PySem.Spec PyProof.Rows HotX L2H
section
variable {prog : Program} {w : World} {A : Around} {E : Value → Shared → Prop} {s : Shared}
theorem nextOf_list_end_hot {it l x1 : Addr} {i : Nat} {items : Array Value} {Q : Value → Shared → Prop} (hot : HotAt A x1 s.heap) (hxi : x1 ≠ it)
    (hit : s.heap.IsListIter it l i) (hl : s.heap.IsList l items) (hx : items[i]? = none)
    (hE : ∀ h' e, Heap.ExtBut it s.heap h' → (∃ o, h'.get? e = some o ∧ o.cls = .type "StopIteration") → E (.ref e) { s with heap := h' }) :
    wpAny (model prog w) A (Builtin.SmallTypes.nextOf (.ref it)) Q E s := by
  obtain ⟨hh, o1, vs1, h1, d1, c1⟩ := hot
  obtain ⟨o, ho, hc, hd⟩ := id hit
  obtain ⟨ol, hol, _, nl, hdl⟩ := hl
  unfold Builtin.SmallTypes.nextOf
  refine wpAny_bind (wpAny_callSpecial?_slot (name := Str.ofString "__next__") hit.typeIs slot_listiter_next
    (wpAny_call_entry slot_listiter_next hit.typeIs entry_listiter_next ?_ (args_listiter_next _)))
  show wpAny _ _ (field (.ref it) 0 >>= _) _ _ s
  refine wpAny_bind (wpAny_field ho hd (x := .ref l) rfl ?_)
  show wpAny _ _ (if (Value.ref l == Value.none) = true then _ else _) _ _ s
  rw [if_neg (show ¬ ((Value.ref l == Value.none) = true) from Bool.false_ne_true)]
  show wpAny _ _ (field (.ref it) 1 >>= _) _ _ s
  refine wpAny_bind (wpAny_field ho hd (x := .int i 0) rfl ?_)
  show wpAny _ _ (seqItems? (.ref l) >>= _) _ _ s
  refine wpAny_bind (wpAny_seqItems hol hdl ?_)
  simp only [Int.toNat_natCast, hx]
  refine wpAny_bind (wpAny_rule (wpAny_bind (wpAny_setField ho hd (by simp) ?_)))
  show wpAny _ _ (newExc (.type "StopIteration") [] >>= _) _ _ _
  refine wpAny_bind ?_
  simp only [newExc, newTuple]
  refine wpAny_bind (wpAny_newObj_type ?_ (by size_fits))
  refine wpAny_bind (m := firstArgMember _ _) (wpAny_of_eq (a := Value.none) (by first | rfl | (simp only [firstArgMember]; rfl)) ?_)
  refine wpAny_newObj_type ?_ (by size_fits)
  have hz : ∀ f : Obj → Obj, (s.heap.update it f).get? x1 = some o1 := fun f => (Heap.get?_update_other _ _ hxi.symm).trans h1
  refine raiseNew_hot ⟨hh, o1, vs1, Heap.get?_push_of_some _ (Heap.get?_push_of_some _ (hz _)), d1, c1⟩ (Nat.ne_of_lt (Heap.lt_size (Heap.get?_push_of_some _ (hz _)))) (Heap.get?_push_size _ rfl) rfl (by first | (simp; done) | (simp; omega) | (simp only [Array.size_append]; simp; omega)) ?_
  refine hE _ _ (fun c o' hc' e => ?_) ⟨_, Heap.get?_update_self _ (Heap.get?_push_size _ rfl) rfl, rfl⟩
  have e2 : ∀ (f : Obj → Obj) (ob : Obj), ((s.heap.update it f).push ob).get? c = some o' := fun f ob => ((Heap.SameBut.update ..).extBut.push _) c o' hc' e
  rw [Heap.get?_update_other _ _ (Nat.ne_of_gt (Heap.lt_size (e2 _ _)))]
  exact Heap.get?_push_of_some _ (e2 _ _)
end
theorem Draws.listHot {prog : Program} {w : World} {A : Around} (it l x1 : Addr) (hne : l ≠ it) (hx : x1 ≠ it) (items : Array Value) :
    Draws prog w A it [it, l, x1] items.size (fun i v => items[i]? = some v) (fun i h => h.IsListIter it l i ∧ h.IsList l items ∧ HotAt A x1 h) where
  live := fun _ _ st => let ⟨o, ho, _⟩ := st.1; ⟨o, ho⟩
  frame := fun _ _ _ st hk => ⟨st.1.at fun o e => hk it (by simp) o e, st.2.1.at fun o e => hk l (by simp) o e, st.2.2.1, by
    obtain ⟨_, o, vs, h1, h2, h3⟩ := st.2.2
    exact ⟨o, vs, hk x1 (by simp) o h1, h2, h3⟩⟩
  item := fun i s Q E hi st hQ => by
    refine wpAny_nextOf_list_item st.1 st.2.1 (x := items[i]) (by simp [hi]) fun h' hit' hs' => ?_
    obtain ⟨hh, o, vs, h1, h2, h3⟩ := st.2.2
    exact hQ _ h' s.toks (by simp [hi]) ⟨hit', st.2.1.extBut hs'.extBut hne, hh, o, vs, hs'.extBut _ _ hx h1, h2, h3⟩ hs'
  done := fun s Q E st hE => nextOf_list_end_hot st.2.2 hx st.1 st.2.1 (by simp) hE
/-- two lists, the items in new pairs; at the end the turns are those of the shorter -/
def ItzH (K : PySem.W.Frag) (a b : Addr) : It :=
  ⟨fun i H => ∃ (xs ys : List V) (x y : V), SqL K H a xs ∧ SqL K H b ys ∧ xs[i]? = some x ∧ ys[i]? = some y,
    fun i H v H' => ∃ T x y, v = .ref T ∧ H T = none ∧ H' = upd H T (.tup [x, y]) ∧ (∀ xs, SqL K H a xs → xs[i]? = some x) ∧ ∀ ys, SqL K H b ys → ys[i]? = some y,
    fun i H => ∃ xs ys : List V, SqL K H a xs ∧ SqL K H b ys ∧ i ≤ xs.length ∧ i ≤ ys.length ∧ (i = xs.length ∨ i = ys.length)⟩
theorem sep_hot {A : Around} {h : Heap} {x1 z TI TO i1 i2 a b : Addr} {i : Nat} {x y : Value} {xs ys : Array Value} (D : ZipSep2 z TI TO i1 i2 [i1, a] [i2, b]) (hot : HotAt A x1 h) (hz : IsZip h z TI TO .none) (hTO : IsTupOf2 h TO x y)
    (h1 : h.IsListIter i1 a i) (h2 : h.IsListIter i2 b i) : x1 ≠ i1 ∧ x1 ≠ i2 ∧ ZipSep2 z TI TO i1 i2 [i1, a, x1] [i2, b, x1] := by
  obtain ⟨_, o, vs, e1, e2, e3⟩ := hot
  have n1 : x1 ≠ i1 := fun e => by
    obtain ⟨o', q1, _, q3⟩ := h1
    rw [e, q1] at e1; cases e1; rw [q3] at e2; cases e2; simp at e3
  have n2 : x1 ≠ i2 := fun e => by
    obtain ⟨o', q1, _, q3⟩ := h2
    rw [e, q1] at e1; cases e1; rw [q3] at e2; cases e2; simp at e3
  have nz : z ≠ x1 := fun e => by
    have q : h.get? z = some _ := hz
    rw [e, e1] at q; cases q; cases e2; simp at e3
  have nT : TO ≠ x1 := fun e => by
    have q : h.get? TO = some _ := hTO
    rw [e, e1] at q; cases q; cases e2
  have m : ∀ {p q r t : Addr}, p ∉ [q, r] → p ≠ t → p ∉ [q, r, t] := fun h1 h2 h3 => by
    simp at h1 h3
    rcases h3 with h3 | h3 | h3
    · exact h1.1 h3
    · exact h1.2 h3
    · exact h2 h3
  exact ⟨n1, n2, D.TIz, D.TOz, D.TITO, D.TIi1, by simp, m D.zf1 nz, m D.Tf1 nT, D.TIi2, by simp, m D.zf2 nz, m D.Tf2 nT, m D.sep1_2 n1.symm, m D.sep2_1 n2.symm⟩
theorem turn_zipH {P : Program} {w : World} {K : PySem.W.Frag} {elts : List Expr} {kk : Nat} {tpos : Pos} {a b z TI TO i1 i2 : Addr} (D : ZipSep2 z TI TO i1 i2 [i1, a] [i2, b]) :
    TurnH P w K (.Tuple elts kk tpos) (ItzH K a b) [z, TI, TO, i1, i2] z (fun i h => IsZip h z TI TO .none ∧ IsTupOf2 h TI (.ref i1) (.ref i2) ∧ (∃ x y, IsTupOf2 h TO x y) ∧ h.IsListIter i1 a i ∧ h.IsListIter i2 b i) where
  mem := by simp
  obj := fun i h st d hc => by
    obtain ⟨hz, hTI, ⟨x, y, hTO⟩, ⟨o1, e1, _, d1⟩, ⟨o2, e2, _, d2⟩⟩ := st
    have e' : d = z ∨ d = TI ∨ d = TO ∨ d = i1 ∨ d = i2 := by simpa using hc
    rcases e' with q | q | q | q | q
    · rw [q]; exact ⟨_, hz, fun v q => nomatch q⟩
    · rw [q]; exact ⟨_, hTI, fun v q => nomatch q⟩
    · rw [q]; exact ⟨_, hTO, fun v q => nomatch q⟩
    · rw [q]; exact ⟨o1, e1, fun v q => by rw [d1] at q; cases q⟩
    · rw [q]; exact ⟨o2, e2, fun v q => by rw [d2] at q; cases q⟩
  keep := fun i h h' st k => by
    obtain ⟨hz, hTI, ⟨x, y, hTO⟩, h1, h2⟩ := st
    exact ⟨k z (by simp) _ hz, k TI (by simp) _ hTI, ⟨x, y, k TO (by simp) _ hTO⟩, h1.at fun o q => k i1 (by simp) o q, h2.at fun o q => k i2 (by simp) o q⟩
  item := by
    intro X hP hw hK hc i pins s σ H E I hf st hg
    subst hP hw hK
    obtain ⟨hz, hTI, ⟨x0, y0, hTO⟩, h1, h2⟩ := st
    obtain ⟨xs, ys, x, y, hqx, hqy, hx, hy⟩ := hg
    obtain ⟨its, rv, p, _⟩ := I.list hqx
    obtain ⟨its2, rv2, p2, _⟩ := I.list hqy
    have lx := (List.getElem?_eq_some_iff.mp hx).1
    have ly := (List.getElem?_eq_some_iff.mp hy).1
    have m1 := rv.length
    have m2 := rv2.length
    obtain ⟨u, hu, ru⟩ := rv.get hx
    obtain ⟨u2, hu2, ru2⟩ := rv2.get hy
    have hzl : z < s.heap.objs.size := Heap.lt_size hz
    obtain ⟨x1, hot⟩ := hc.at I
    obtain ⟨n1, n2, D2⟩ := sep_hot (xs := #[]) (ys := #[]) D hot hz hTO h1 h2
    have hot2 : HotAt X.A.in1 x1 s.heap := hot
    have na : a ≠ i1 := fun e => by
      obtain ⟨o, e1, e2, _⟩ := h1
      obtain ⟨o', e3, e4, _⟩ := p.isList
      rw [e] at e3; rw [e1] at e3; cases e3; rw [e2] at e4; simp at e4
    have nb : b ≠ i2 := fun e => by
      obtain ⟨o, e1, e2, _⟩ := h2
      obtain ⟨o', e3, e4, _⟩ := p2.isList
      rw [e] at e3; rw [e1] at e3; cases e3; rw [e2] at e4; simp at e4
    refine wpAny_pyNext_zipD2_item (i := i) D2 (Draws.listHot i1 a x1 na n1 its.toArray) (Draws.listHot i2 b x1 nb n2 its2.toArray) hz hTI hTO ⟨h1, p.isList, hot2⟩ ⟨h2, p2.isList, hot2⟩ (by simp; omega) (by simp; omega) fun v1 v2 h' tk hv1 hv2 z' TO' s1' s2' hT hsz hk => ?_
    obtain rfl : v1 = u := Option.some.inj (hv1.symm.trans (by simpa using hu))
    obtain rfl : v2 = u2 := Option.some.inj (hv2.symm.trans (by simpa using hu2))
    refine ⟨_, rfl, wpAny_letOwnedTupleGo_zip (s := { s with heap := h', toks := tk }) z' fun h'' z'' sb => ?_⟩
    have hT2 : h''.get? s.heap.objs.size = some { cls := .type "tuple", data := .seq #[v1, v2] } := (sb.2 _ (Nat.ne_of_gt hzl)).trans hT
    have new : ObjOk X.prog X.w (upd H s.heap.objs.size (.tup [x, y])) h'' s.heap.objs.size (.tup [x, y]) :=
      ⟨by show 2 ≤ sizeLine; decide, [v1, v2], .cons ru (.cons ru2 .nil), ⟨_, hT2, rfl, _, rfl⟩⟩
    have I1 : Inv X pins σ (upd H s.heap.objs.size (.tup [x, y])) { s with heap := h'', toks := tk } :=
      I.turnedNew (t' := tk) (ch := [z, TI, TO, i1, i2]) (fun c o hb q => (sb.2 c (fun q' => hb (by simp [q']))).trans (hk c o (fun q' => hb (by simp [q'])) (fun q' => hb (by simp [q'])) (fun q' => hb (by simp [q'])) (fun q' => hb (by simp [q'])) q)) hf (Nat.le_refl _) new
    refine ⟨.ref s.heap.objs.size, _, I1, rfl, ⟨_, x, y, rfl, I.hok.fresh (Nat.le_refl _), rfl, fun l hl => by rw [I.list_inj hl hqx]; exact hx, fun l hl => by rw [I.list_inj hl hqy]; exact hy⟩, ⟨z'', ?_, ⟨v1, v2, ?_⟩, ?_, ?_⟩, fun c hcm => ?_⟩
    · exact (sb.2 _ D.TIz).trans (hk _ _ D.TIz D.TITO D.TIi1 D.TIi2 hTI)
    · exact (sb.2 _ D.TOz).trans TO'
    · exact s1'.1.at fun o q => (sb.2 _ D.zi1.symm).trans q
    · exact s2'.1.at fun o q => (sb.2 _ D.zi2.symm).trans q
    · have hlt : c < s.heap.objs.size := by
        have e' : c = z ∨ c = TI ∨ c = TO ∨ c = i1 ∨ c = i2 := by simpa using hcm
        rcases e' with q | q | q | q | q
        · rw [q]; exact hzl
        · rw [q]; exact Heap.lt_size hTI
        · rw [q]; exact Heap.lt_size hTO
        · rw [q]; obtain ⟨_, e1, _⟩ := h1; exact Heap.lt_size e1
        · rw [q]; obtain ⟨_, e2, _⟩ := h2; exact Heap.lt_size e2
      rw [upd_ne (Nat.ne_of_lt hlt)]
      exact (hf c hcm).1
  done := by
    intro X hP hw hK hc i pins s σ H E I hf st hg
    subst hP hw hK
    obtain ⟨hz, hTI, ⟨x0, y0, hTO⟩, h1, h2⟩ := st
    obtain ⟨xs, ys, hqx, hqy, lx, ly, hend⟩ := hg
    obtain ⟨its, rv, p, _⟩ := I.list hqx
    obtain ⟨its2, rv2, p2, _⟩ := I.list hqy
    have m1 := rv.length
    have m2 := rv2.length
    obtain ⟨x1, hot⟩ := hc.at I
    obtain ⟨n1, n2, D2⟩ := sep_hot (xs := #[]) (ys := #[]) D hot hz hTO h1 h2
    have hot2 : HotAt X.A.in1 x1 s.heap := hot
    have na : a ≠ i1 := fun e => by
      obtain ⟨o, e1, e2, _⟩ := h1
      obtain ⟨o', e3, e4, _⟩ := p.isList
      rw [e] at e3; rw [e1] at e3; cases e3; rw [e2] at e4; simp at e4
    have nb : b ≠ i2 := fun e => by
      obtain ⟨o, e1, e2, _⟩ := h2
      obtain ⟨o', e3, e4, _⟩ := p2.isList
      rw [e] at e3; rw [e1] at e3; cases e3; rw [e2] at e4; simp at e4
    exact wpAny_pyNext_zipD2_end (i := i) D2 (Draws.listHot i1 a x1 na n1 its.toArray) (Draws.listHot i2 b x1 nb n2 its2.toArray) hz hTI hTO ⟨h1, p.isList, hot2⟩ ⟨h2, p2.isList, hot2⟩ (by simp; omega) (by simp; omega) (by simp; omega) fun h' tk hk => ⟨rfl, I.turnedL (t' := tk) (ch := [z, TI, TO, i1, i2]) (fun c o hb q =>
      hk c o (fun q' => hb (by simp [q'])) (fun q' => hb (by simp [q'])) (fun q' => hb (by simp [q'])) (fun q' => hb (by simp [q'])) q) hf⟩
  self := fun A i s Q E st h => wpAny_pyIter_zip st.1 h
def iZipH (K : PySem.W.Frag) (ta : TA) : TI := fun σ H R => ta σ H fun vs H1 => ∃ a b xs ys, vs = [.ref a, .ref b] ∧ SqL K H1 a xs ∧ SqL K H1 b ys ∧ R (ItzH K a b) H1
theorem pi_zipH {X : Cx} {e e2 : Expr} {ta : TA} {p pos tpos : Pos} {elts : List Expr} {kk : Nat} (hg : Gl X "zip") (hm : X.mg "zip" = none) (ha : PA X [e, e2] ta)
    (hs : starEach [e, e2] X.env = (false, eval e X.env) :: starEach [e2] X.env := by rfl) (hpl : (backTo pos (starEach [e2] X.env)).any (·.1) = false := by rfl) :
    PIH X (.Tuple elts kk tpos) (.Call (.Name "zip" p) [e, e2] [] pos) (iZipH X.K ta) := by
  refine ⟨fun pins s σ H R I h => ?_⟩
  refine Call_ (ld_blt I hg hm PyProof.Rows.boot_zip (PyProof.Rows.callWith_type1 (thn (ha.run pos pins s σ H _ I h) fun us s1 ⟨vs, H1, I1, r1, q1⟩ => ?_) hs hpl))
  obtain ⟨a, b, xs, ys, ex, hqx, hqy, q⟩ := q1
  subst ex
  cases r1 with
  | cons r rr =>
    cases rr with
    | cons r' rr =>
      cases rr
      cases r
      cases r'
      obtain ⟨its, rv, p1, _⟩ := I1.list hqx
      obtain ⟨its2, rv2, p2, _⟩ := I1.list hqy
      have la : a < s1.heap.objs.size := p1.lt
      have lb : b < s1.heap.objs.size := p2.lt
      refine zip_begins2 (begins_list a its.toArray) (begins_list b its2.toArray) p1.isList p2.isList fun h' hz hTI hTO h1 h2 hsz hk => wpAny_pyIter_zip hz ?_
      have I2 : Inv X pins σ H1 { s1 with heap := h' } := I1.kept (t' := s1.toks) hk
      have hS : ZipSep2 (s1.heap.objs.size + 4) (s1.heap.objs.size + 2) (s1.heap.objs.size + 3) s1.heap.objs.size (s1.heap.objs.size + 1) [s1.heap.objs.size, a] [s1.heap.objs.size + 1, b] :=
        zip_sep2 (fp1 := [a]) (fp2 := [b]) (fun x hx => by simp at hx; rw [hx]; exact la) (fun x hx => by simp at hx; rw [hx]; exact lb)
      refine ⟨s1.heap.objs.size + 4, [s1.heap.objs.size + 4, s1.heap.objs.size + 2, s1.heap.objs.size + 3, s1.heap.objs.size, s1.heap.objs.size + 1], _, _, H1, rfl, I2, turn_zipH hS, ⟨hz, hTI, ⟨_, _, hTO⟩, ⟨_, h1, rfl, rfl⟩, ⟨_, h2, rfl, rfl⟩⟩, fun d hcm => ?_, q⟩
      have e' : d = s1.heap.objs.size + 4 ∨ d = s1.heap.objs.size + 2 ∨ d = s1.heap.objs.size + 3 ∨ d = s1.heap.objs.size ∨ d = s1.heap.objs.size + 1 := by simpa using hcm
      have hle : s1.heap.objs.size ≤ d := by
        rcases e' with z | z | z | z | z
        · rw [z]; exact Nat.le_add_right _ _
        · rw [z]; exact Nat.le_add_right _ _
        · rw [z]; exact Nat.le_add_right _ _
        · rw [z]; exact Nat.le_refl _
        · rw [z]; exact Nat.le_add_right _ _
      exact I1.fpOk hle (I1.hok.fresh hle)
end L2

set_option Elab.async false
set_option linter.all false
set_option autoImplicit false
set_option maxRecDepth 100000
set_option maxHeartbeats 4000000
/-! list comprehensions, tuple targets while an exception is handled. -/
namespace L2
open PySem PySem.Spec PyProof.Rows HotX L2H
section
variable {prog : Program} {w : World} {A : Around} {E : Value → Shared → Prop} {s : Shared}
theorem next_tuple_end_hot {it t x1 : Addr} {i : Nat} {items : Array Value} {Q : Option Value → Shared → Prop} (hot : HotAt A x1 s.heap) (hxi : x1 ≠ it)
    (hit : IsTupIter s.heap it t i) (ht : IsTup s.heap t items) (hx : items[i]? = none)
    (hQ : ∀ h', Heap.ExtBut it s.heap h' → Q none { s with heap := h' }) : wpAny (model prog w) A (pyNext (.ref it)) Q E s := by
  obtain ⟨hh, o1, vs1, h1, d1, c1⟩ := hot
  obtain ⟨o, ho, hc, hd⟩ := id hit
  obtain ⟨ol, hol, _, nl, hdl⟩ := ht
  unfold pyNext
  refine wpAny_bind (wpAny_attempt (wpAny_callSpecial?_slot (name := Str.ofString "__next__") hit.typeIs slot_tupleiter_next
    (wpAny_call_entry slot_tupleiter_next hit.typeIs entry_tupleiter_next ?_ (args_tupleiter_next _))))
  show wpAny _ _ (field (.ref it) 0 >>= _) _ _ s
  refine wpAny_bind (wpAny_field ho hd (x := .ref t) rfl ?_)
  show wpAny _ _ (if (Value.ref t == Value.none) = true then _ else _) _ _ s
  rw [if_neg (show ¬ ((Value.ref t == Value.none) = true) from Bool.false_ne_true)]
  show wpAny _ _ (field (.ref it) 1 >>= _) _ _ s
  refine wpAny_bind (wpAny_field ho hd (x := .int i 0) rfl ?_)
  show wpAny _ _ (seqItems? (.ref t) >>= _) _ _ s
  refine wpAny_bind (wpAny_seqItems hol hdl ?_)
  simp only [Int.toNat_natCast, hx]
  refine wpAny_bind (wpAny_rule (wpAny_bind (wpAny_setField ho hd (by simp) ?_)))
  show wpAny _ _ (newExc (.type "StopIteration") [] >>= _) _ _ _
  refine wpAny_bind ?_
  simp only [newExc, newTuple]
  refine wpAny_bind (wpAny_newObj_type ?_ (by size_fits))
  refine wpAny_bind (m := firstArgMember _ _) (wpAny_of_eq (a := Value.none) (by first | rfl | (simp only [firstArgMember]; rfl)) ?_)
  refine wpAny_newObj_type ?_ (by size_fits)
  have hz : ∀ f : Obj → Obj, (s.heap.update it f).get? x1 = some o1 := fun f => (Heap.get?_update_other _ _ hxi.symm).trans h1
  refine raiseNew_hot ⟨hh, o1, vs1, Heap.get?_push_of_some _ (Heap.get?_push_of_some _ (hz _)), d1, c1⟩ (Nat.ne_of_lt (Heap.lt_size (Heap.get?_push_of_some _ (hz _)))) (Heap.get?_push_size _ rfl) rfl (by first | (simp; done) | (simp; omega) | (simp only [Array.size_append]; simp; omega)) ?_
  refine wpAny_bind (wpAny_isInstance (T := "StopIteration") (b := true) ⟨_, Heap.get?_update_self _ (Heap.get?_push_size _ rfl) rfl, rfl⟩ isSubtype_stop ?_)
  refine wpAny_pure (hQ _ fun c o' hc' e => ?_)
  have e2 : ∀ (f : Obj → Obj) (ob : Obj), ((s.heap.update it f).push ob).get? c = some o' := fun f ob => ((Heap.SameBut.update ..).extBut.push _) c o' hc' e
  rw [Heap.get?_update_other _ _ (Nat.ne_of_gt (Heap.lt_size (e2 _ _)))]
  exact Heap.get?_push_of_some _ (e2 _ _)
theorem unpackItems_tuple_hot {t x1 : Addr} {items : Array Value} {Q : List Value → Shared → Prop} (hot : HotAt A x1 s.heap) (ht : IsTup s.heap t items)
    (hQ : ∀ h', Heap.ExtBut s.heap.objs.size s.heap h' → Q items.toList { s with heap := h' }) : wpAny (model prog w) A (unpackItems (.ref t) items.size none) Q E s := by
  have hlt : t ≠ s.heap.objs.size := by obtain ⟨o, ho, _⟩ := ht; exact Nat.ne_of_lt (Heap.lt_size ho)
  obtain ⟨hh, o1, vs1, h1, d1, c1⟩ := hot
  have hx1 : x1 ≠ s.heap.objs.size := Nat.ne_of_lt (Heap.lt_size h1)
  unfold unpackItems
  refine wpAny_bind ?_
  · unfold notIterableAtAll
    refine wpAny_bind (wpAny_specialOf ht.typeIs slot_tuple_iter.lookup ?_)
    refine wpAny_pure ?_
    simp only [Bool.false_eq_true, if_false]
    refine wpAny_bind (wpAny_holding (iter_tuple ht ?_))
    refine wpAny_bind (wpAny_holding (draw_tuple hlt items.size 0 _ _ ⟨_, Heap.get?_push_size _ rfl, rfl, rfl⟩ (ht.push _) (by omega) fun h₁ hit₁ hs₁ => ?_))
    have hall : List.take items.size (List.drop 0 items.toList) = items.toList := by
      rw [List.drop_zero]; exact List.take_of_length_le (by simp)
    rw [hall]
    rw [if_neg (by simp)]
    have ht₁ : IsTup h₁ t items := (ht.push _).extBut hs₁.extBut hlt
    refine wpAny_bind (wpAny_holding (next_tuple_end_hot ⟨hh, o1, vs1, hs₁.extBut x1 o1 hx1 (Heap.get?_push_of_some _ h1), d1, c1⟩ hx1 hit₁ ht₁ (by simp) fun h₂ he₂ => ?_))
    simp only [Option.isSome_none, Bool.false_eq_true, if_false]
    refine wpAny_pure (hQ h₂ fun b o hb e => he₂ b o hb (hs₁.extBut b o hb (Heap.get?_push_of_some _ e)))
theorem assign_Tuple_tuple_hot {env : Env} {elts : List Expr} {k : Nat} {pos : Pos} {t x1 : Addr} {items : Array Value} {Q : Unit → Shared → Prop} (hot : HotAt A x1 s.heap) (ht : IsTup s.heap t items)
    (hn : (assignEach elts env).length = items.size) (hstar : (assignEach elts env).findIdx? (·.1) = none)
    (h : ∀ h', Heap.ExtBut s.heap.objs.size s.heap h' → wpAny (model prog w) A (assignInOrder ((assignEach elts env).map (·.2)) items.toList) Q E { s with heap := h' }) :
    wpAny (model prog w) A (assign (.Tuple elts k pos) env (.ref t)) Q E s := by
  rw [assign_Tuple]
  refine wpAny_bind (wpAny_standAt ?_)
  unfold unpack
  rw [hn, hstar]
  exact wpAny_bind (wpAny_holding (unpackItems_tuple_hot hot ht h))
end
theorem pg_tupH {X : Cx} {es : List Expr} {k : Nat} {t : TGs} {n : Nat} {pos : Pos} (hc : HotC X) (h : PGs X es t)
    (hn : (assignEach es X.env).length = n := by rfl) (hst : (assignEach es X.env).findIdx? (·.1) = none := by rfl) : PG X (.Tuple es k pos) (gTup X.K n t) := by
  refine ⟨fun pins s σ H v u Q I r hw => ?_⟩
  obtain ⟨a, xs, e1, hq, hl, hw⟩ := hw
  subst e1
  cases r
  obtain ⟨its, rv, ht, hz⟩ := I.tuple hq
  obtain ⟨x1, hot⟩ := hc.at I
  refine assign_Tuple_tuple_hot hot ht (by simp [hn, ← hl, rv.length]) hst fun h' hx => ?_
  have I1 : Inv X pins σ H { s with heap := h' } := I.kept (t' := s.toks) fun b o e => hx b o (Nat.ne_of_lt (Heap.lt_size e)) e
  exact h.run pins _ σ H xs _ Q I1 (by simpa using rv) hw
theorem kPgTH {X : Cx} {K : PySem.W.Frag} {es : List Expr} {k : Nat} {t : TGs} {n : Nat} {pos : Pos} (hK : X.K = K) (hc : HotC X) (h : PGs X es t)
    (hn : (assignEach es X.env).length = n := by rfl) (hst : (assignEach es X.env).findIdx? (·.1) = none := by rfl) : PG X (.Tuple es k pos) (gTup K n t) := hK ▸ pg_tupH hc h hn hst
theorem blkOk_in {N : List Str} {sc sc0 sc1 scope : Scope} {own : List (Str × Nat)} (e : sc = relS sc1 sc0) (h : blkC N (relS sc1 sc0) scope own = true) : BlkOk N sc scope own := by
  rw [e]
  exact blkOk_by h
theorem hotC_suite {X : Cx} {a : Addr} {oe : Obj} {cls : Value} {d : Option Addr} {pn : List (Addr × Obj)} (hz : L2N.Zn cls d oe) (hf : ∃ vs, oe.data = .fields vs) : HotC (X.suite a ((a, oe) :: pn)) := by
  obtain ⟨vs, hd⟩ := hf
  exact ⟨(a, oe), ⟨rfl, vs, hd, hz.2.2 vs hd⟩, List.mem_cons_self⟩
theorem kPiZipH {X : Cx} {K : PySem.W.Frag} {e e2 : Expr} {ta : TA} {p pos tpos : Pos} {elts : List Expr} {kk : Nat} (hK : X.K = K) (hg : Gl X "zip") (hm : X.mg "zip" = none) (ha : PA X [e, e2] ta)
    (hs : starEach [e, e2] X.env = (false, eval e X.env) :: starEach [e2] X.env := by rfl) (hpl : (backTo pos (starEach [e2] X.env)).any (·.1) = false := by rfl) :
    PIH X (.Tuple elts kk tpos) (.Call (.Name "zip" p) [e, e2] [] pos) (iZipH K ta) := hK ▸ pi_zipH hg hm ha hs hpl
theorem kJoin {X : Cx} {K : PySem.W.Frag} {o e : Expr} {to te : TE} {apos pos : Pos} (hK : X.K = K) (ho : PE X o to) (he : PE X e te) (hs : starEach [e] X.env = [(false, eval e X.env)] := by rfl) (hbase : attributeBase o "join" X.env (eval o X.env) = eval o X.env := by rfl) (hline : (apos.endLine == pos.line) = true := by rfl) :
    PE X (.Call (.Attribute o "join" apos) [e] [] pos) (tM1 (fun x xs H Q => ∃ a p, ∃ ys : List Str, x = .str a ∧ xs = [.ref p] ∧ (SqL K H p (ys.map V.str) ∨ SqT K H p (ys.map V.str)) ∧
      (ys.map (·.length)).sum + ys.length * a.length ≤ 16777216 ∧ Q (.str (Txt.join a ys)) H) to te) := hK ▸ pe_join ho he hs hbase hline
/-- a block's context that keeps the pins -/
abbrev Cx.blkH (X : Cx) (s : Shared) (H : Hp) (scope : Scope) (cenv : Env) (fp : List Addr) : Cx := { X with s_0 := s, H_0 := H, env := cenv, outer := X.stack, ex := fp, fn := fun x => scope.names.lookup x == some .cell, xe := fun _ _ => False }
section
variable {X : Cx} {pins : List (Addr × Obj)} {σ : St} {H : Hp} {s : Shared}
theorem block_startH {scope : Scope} {own : List (Str × Nat)} {fp : List Addr} (I : Inv X pins σ H s) (ok : BlkOk X.N X.env.scope scope own) (hN : X.N.Nodup) (hfp : ∀ b ∈ fp, FpOk X pins H b ∧ b < s.heap.objs.size) :
    Inv (X.blkH s H scope (compEnvC scope (cellsFrom (s.heap.objs.size + 1) scope.names (cloFrom X.env.cells scope.names [])) s.heap.objs.size X.env) fp) [] (wipe σ (own.map (·.2))) H { s with heap := pushCells (s.heap.push { cls := .type "dict", data := .dict #[] }) scope.names } := by
  have I0 := block_start I ok hN hfp
  refine ⟨⟨I0.ok.mod, I0.ok.kind, I0.ok.glob, I0.ok.blt, I0.ok.above, I0.ok.inj, I0.ok.has, I0.ok.cab, I0.ok.hd, I0.ok.frames, I0.ok.stk, I0.ok.exf, I0.ok.bs, I0.ok.bsz, I0.ok.noex, I0.ok.exfs, I0.ok.funs, I0.ok.frf⟩,
    I0.os, I0.bare, I0.base, I0.loc, I0.cell, I0.free, I0.freeC, fun p hp => ?_, I0.hok, I0.len⟩
  rw [List.append_nil] at hp
  have P1 := I.pin p (List.mem_append_left _ hp)
  exact ⟨pushCells_keeps _ _ _ _ (Heap.get?_push_of_some _ P1.1), P1.2.1, Nat.ne_of_lt (Heap.lt_size P1.1), fun hm => (List.mem_cons.mp (I.stkSub p.1 hm)).elim P1.2.2.1 P1.2.2.2.1, P1.2.2.2.2⟩
end
theorem hotB {X : Cx} {s : Shared} {H : Hp} {scope : Scope} {cenv : Env} {fp : List Addr} (h : HotC X) : HotC (X.blkH s H scope cenv fp) := h
section
variable {X : Cx}
theorem lc_coreH {pins : List (Addr × Obj)} {s : Shared} {σ : St} {H : Hp} {Q : VK} {elt tg iter : Expr} {ifs : List Expr} {scope : Scope} {own : List (Str × Nat)} {pos pos' : Pos} {wi : TI} {g : TG} {tt : TT} {te : TE} {use : Option (Value → Sem Unit)} {Qf : Value → Shared → Prop}
    (hc : HotC X) (hN : X.N.Nodup) (I : Inv X pins σ H s) (hi : PIH X tg iter wi) (ok : BlkOk X.N X.env.scope scope own)
    (hg : ∀ (s : Shared) (H : Hp) (C : Addr) (cl : List (Str × Addr)) (fp : List Addr), PG (X.blkH s H scope (compEnvC scope cl C X.env) fp) tg g) (ht : ∀ (s : Shared) (H : Hp) (C : Addr) (cl : List (Str × Addr)) (fp : List Addr), PTs (X.blkH s H scope (compEnvC scope cl C X.env) fp) ifs tt)
    (he : ∀ (s : Shared) (H : Hp) (C : Addr) (cl : List (Str × Addr)) (fp : List Addr), PE (X.blkH s H scope (compEnvC scope cl C X.env) fp) elt te) (hs : ∀ x, foldedSetIterable iter X.env x = pure x)
    (h : tLc wi g tt te (own.map (·.2)) σ H Q)
    (hRR : ∀ D C s' m H', Inv X pins σ H' s' → Q (.ref D) H' → s'.heap.Ns C m → FpOk X pins H' C → compPost (model X.prog X.w) X.A X.xe use Qf (.ref D) C (.ok .next) s') :
    wpAny (model X.prog X.w) X.A (comprehension (.ListComp elt [⟨tg, iter, ifs, 0⟩] scope pos) scope X.env pos' (newList []) false (eval iter X.env) use) Qf X.xe s := by
  have hfree : ∀ y ∈ scope.names, y.2 = .free → ∃ c, X.env.cells.lookup y.1 = some c := fun y hy e => by
    rcases ok.free y hy e with k | k
    · exact I.ok.has _ (.inl k)
    · exact I.ok.has _ (.inr k)
  refine wpAny_comprehension_free (use := use) rfl hs (closure_ok hfree) ok.kind (fun y hy e => by rw [ok.uniq y hy, e])
    (thn (hi.run pins s σ H _ I h) fun xv s1 hx => thn hx fun itv s2 h2 => ?_)
  obtain ⟨it, fp, tn, J, H2, e, I2, T, st2, f2, q⟩ := h2
  subst e
  refine wpAny_newObj_type (newEnv_comp ?_) (by show 0 ≤ sizeLine; decide)
  generalize hD : s2.heap.objs.size = D
  have hDn : H2 D = none := I2.hok.fresh (Nat.le_of_eq hD)
  obtain ⟨W, ⟨m0, w0⟩, turn⟩ := q D hDn
  -- the new list
  generalize hs3 : ({ s2 with heap := s2.heap.push { cls := .type "list", data := .seq ([] : List Value).toArray } } : Shared) = s3
  have I3 : Inv X pins σ (upd H2 D (.lst [])) s3 := by
    rw [← hs3]
    refine I2.laid (t' := s2.toks) (fun b o e => Heap.get?_push_of_some _ e) (Nat.le_of_eq hD) ⟨Nat.zero_le _, [], 0, .nil, ?_⟩
    rw [← hD]
    exact Heap.get?_push_size _ rfl
  have h3 : s3.heap = s2.heap.push { cls := .type "list", data := .seq ([] : List Value).toArray } := by rw [← hs3]
  have sz : ∀ b ∈ fp, b < s2.heap.objs.size := fun b hb => by
    obtain ⟨o, e, _⟩ := T.obj _ _ st2 b hb
    exact Heap.lt_size e
  have f3 : ∀ b ∈ fp, FpOk X pins (upd H2 D (.lst [])) b ∧ b < s3.heap.objs.size := fun b hb => by
    have hlt := sz b hb
    refine ⟨⟨?_, (f2 b hb).2⟩, by rw [h3, Heap.size_push]; exact Nat.lt_succ_of_lt hlt⟩
    rw [upd_ne (by rw [← hD]; exact Nat.ne_of_lt hlt)]
    exact (f2 b hb).1
  have st3 : tn 0 s3.heap := T.keep _ _ _ st2 fun b _ o e => by rw [h3]; exact Heap.get?_push_of_some _ e
  have I4 := block_startH I3 ok hN f3
  have pg := hg s3 (upd H2 D (.lst [])) s3.heap.objs.size (cellsFrom (s3.heap.objs.size + 1) scope.names (cloFrom X.env.cells scope.names [])) fp
  have pt := ht s3 (upd H2 D (.lst [])) s3.heap.objs.size (cellsFrom (s3.heap.objs.size + 1) scope.names (cloFrom X.env.cells scope.names [])) fp
  have pe := he s3 (upd H2 D (.lst [])) s3.heap.objs.size (cellsFrom (s3.heap.objs.size + 1) scope.names (cloFrom X.env.cells scope.names [])) fp
  show codeAny _ _ (.compStart (.ListComp elt [⟨tg, iter, ifs, 0⟩] scope pos) 0 (.ref it) (.ref D) (compEnvC scope (cellsFrom (s3.heap.objs.size + 1) scope.names (cloFrom X.env.cells scope.names [])) s3.heap.objs.size X.env)) (compPost (model X.prog X.w) X.A X.xe use Qf (.ref D) s3.heap.objs.size) { s3 with heap := pushCells (s3.heap.push { cls := .type "dict", data := .dict #[] }) scope.names }
  have nfp : ∀ b ∈ fp, (upd H2 D (.lst [])) b = none := fun b hb => (f3 b hb).1.1
  generalize hce : compEnvC scope (cellsFrom (s3.heap.objs.size + 1) scope.names (cloFrom X.env.cells scope.names [])) s3.heap.objs.size X.env = ce at I4 pg pt pe ⊢
  have cL : ce.locals = s3.heap.objs.size := by subst hce; rfl
  generalize hH3 : upd H2 D (.lst []) = H3 at I3 I4 pg pt pe w0 nfp f3
  generalize hs4 : ({ s3 with heap := pushCells (s3.heap.push { cls := .type "dict", data := .dict #[] }) scope.names } : Shared) = s4 at I4 ⊢
  have st4 : tn 0 s4.heap := T.keep _ _ _ st3 fun b _ o e => by rw [← hs4]; exact pushCells_keeps _ _ _ _ (Heap.get?_push_of_some _ e)
  have hcB : HotC (X.blkH s3 H3 scope ce fp) := hc
  have stat : ∀ {σ' : St} {H' : Hp} {s' : Shared}, Inv (X.blkH s3 H3 scope ce fp) [] σ' H' s' → (∀ b ∈ fp, H' b = none) → ∀ b ∈ fp, FpOk (X.blkH s3 H3 scope ce fp) [] H' b := fun {σ' H' s'} I' hn b hb =>
    ⟨hn b hb, (I'.ok.exf b hb).1, I'.ok.exfs b hb, .inl hb, fun x c e => (I'.ok.exf b hb).2 x c e, fun p hp => (f3 b hb).1.2.2.2.2.2 p (List.mem_append_left _ (by rw [List.append_nil] at hp; exact hp))⟩
  have loop : codeAny (model X.prog X.w) X.A (.compLoop (.ListComp elt [⟨tg, iter, ifs, 0⟩] scope pos) 0 (.ref it) (.ref D) ce) (compPost (model X.prog X.w) X.A X.xe use Qf (.ref D) s3.heap.objs.size) s4 := by
    refine compLoop_any (fun n s' => ∃ i H', Inv (X.blkH s3 H3 scope ce fp) [] (wipe σ (own.map (·.2))) H' s' ∧ tn i s'.heap ∧ (∀ b ∈ fp, H' b = none) ∧ W i n H') ?_ m0 ⟨0, H3, I4, st4, nfp, w0⟩
    rintro n s5 ⟨i, H5, I5, st5, n5, w5⟩
    rcases turn i n H5 w5 with ⟨stop, qq⟩ | ⟨go, Nx, hNx, step⟩
    · have td := T.done (X.blkH s3 H3 scope ce fp) rfl rfl rfl hcB i [] s5 _ H5 (fun _ _ => False) I5 (stat I5 n5) st5 stop
      refine thnF td fun r s6 ⟨hr, I6⟩ => ?_
      subst hr
      -- back in the def's context
      have I7 : Inv X pins σ H5 s6 := I3.call' (ch := fp) I6.os I6.base I6.hok I6.bare fun b hb => ⟨(f3 b hb).1.2.2.2.1, (f3 b hb).1.2.1, (f3 b hb).1.2.2.2.2.1, (f3 b hb).1.2.2.2.2.2⟩
      have nC : H5 s3.heap.objs.size = none := by
        have z : H5 ce.locals = none := I6.free
        rw [cL] at z
        exact z
      obtain ⟨m, hn, _⟩ := I6.loc
      have hn : s6.heap.Ns ce.locals m := hn
      rw [cL] at hn
      exact hRR D s3.heap.objs.size s6 m H5 I7 qq hn (I3.fpOk (Nat.le_refl _) nC)
    · have ti := T.item (X.blkH s3 H3 scope ce fp) rfl rfl rfl hcB i [] s5 _ H5 (fun _ _ => False) I5 (stat I5 n5) st5 go
      refine thnF ti fun r s6 ⟨u, hr, h6⟩ => ?_
      subst hr
      refine thnF h6 fun _ s7 ⟨x, H7, I7, r7, y7, st7, n7⟩ => ?_
      have I7' := I7.pinned (stat I7 n7) (T.obj _ _ st7)
      refine thnF (pg.run _ s7 _ H7 x u _ I7' r7 (step x H7 y7)) fun _ s8 ⟨σ8, H8, I8, hw8, q8⟩ => ?_
      refine thnF (pt.run _ s8 σ8 H8 _ I8 q8) fun b s9 ⟨H9, I9, q9⟩ => ?_
      -- the turn's end
      have fin : ∀ {s' : Shared} {H' : Hp}, Inv (X.blkH s3 H3 scope ce fp) ([] ++ pinsAt fp s7.heap) σ8 H' s' → Nx H' → ∃ m, m < n ∧ ∃ i H', Inv (X.blkH s3 H3 scope ce fp) [] (wipe σ (own.map (·.2))) H' s' ∧ tn i s'.heap ∧ (∀ b ∈ fp, H' b = none) ∧ W i m H' := fun {s' H'} I' nx => by
        obtain ⟨m', hm, w'⟩ := hNx H' nx
        have pin' : ∀ b ∈ fp, ∀ o, s7.heap.get? b = some o → s'.heap.get? b = some o ∧ H' b = none := fun b hb o e =>
          let z := I'.pin (b, o) (List.mem_append_right _ (List.mem_append_right _ (mem_pinsAt hb e)))
          ⟨z.1, z.2.1⟩
        have hl : (wipe σ (own.map (·.2))).length = σ8.length := by rw [← hw8, wipe_length]
        refine ⟨m', hm, i + 1, H', (I'.unpinned (pins := [])).weak hl (fun j v e => ?_), T.keep _ _ _ st7 fun b hb o e => (pin' b hb o e).1, fun b hb => ?_, w'⟩
        · rw [← hw8] at e
          exact (wipe_some e).1
        · obtain ⟨o, e, _⟩ := T.obj _ _ st7 b hb
          exact (pin' b hb o e).2
      cases b with
      | false =>
        simp only [Bool.false_eq_true, if_false] at q9 ⊢
        exact fin I9 q9
      | true =>
        simp only [if_true] at q9 ⊢
        refine thnF (pe.run _ s9 σ8 H9 _ I9 q9) fun z s10 ⟨yv, H10, I10, r10, acc, hD10, hz10, nx⟩ => ?_
        exact app_ok (X := X.blkH s3 H3 scope ce fp) I10 hD10 hz10 r10 fun s11 I11 => fin I11 nx
  exact codeAny_compStart_list loop (T.self X.A 0 _ _ _ st4 loop)
theorem pe_lcH {elt tg iter : Expr} {ifs : List Expr} {scope : Scope} {own : List (Str × Nat)} {pos : Pos} {wi : TI} {g : TG} {tt : TT} {te : TE} (hc : HotC X) (hN : X.N.Nodup) (hi : PIH X tg iter wi) (ok : BlkOk X.N X.env.scope scope own)
    (hg : ∀ (s : Shared) (H : Hp) (C : Addr) (cl : List (Str × Addr)) (fp : List Addr), PG (X.blkH s H scope (compEnvC scope cl C X.env) fp) tg g) (ht : ∀ (s : Shared) (H : Hp) (C : Addr) (cl : List (Str × Addr)) (fp : List Addr), PTs (X.blkH s H scope (compEnvC scope cl C X.env) fp) ifs tt)
    (he : ∀ (s : Shared) (H : Hp) (C : Addr) (cl : List (Str × Addr)) (fp : List Addr), PE (X.blkH s H scope (compEnvC scope cl C X.env) fp) elt te) (hs : ∀ x, foldedSetIterable iter X.env x = pure x := by intro _; rfl) :
    PE X (.ListComp elt [⟨tg, iter, ifs, 0⟩] scope pos) (tLc wi g tt te (own.map (·.2))) := by
  refine ⟨fun pins s σ H Q I h => ?_⟩
  rw [eval_ListComp]
  refine lc_coreH hc hN I hi ok hg ht he hs h fun D C s' m H' I' q hn f => ⟨m, hn, fun h'' sb => ?_⟩
  obtain ⟨f0, f1, f2, f3, f4, f5⟩ := f
  exact ⟨.ref D, H', I'.turned (t' := s'.toks) (fun b o hb e => (sb.2 b hb).trans e) f0 f1 f3 f4 f5, rfl, q⟩
end
end L2
namespace DL
open PySem PySem.Spec PyProof.Rows L2
section
variable {c : Cn} {S : Addr → Bool} {As As1 As2 : Ads} {H H1 : Hp} {M M1 M2 : List MO} {ρ : List Sl} {σ : L2.St} {P P' : Po} {ta tb tc te ti : TE} {s : Sl} {v w : V} {Q Q' : QS} {X : XP} {R : VK}
theorem walk_zipH {a b : Addr} {vs ws : List V} {ds es : List PyData} {j k : Nat} {kp : List MO → Prop} (h : SqL c.K (hmk S As H) a vs) (r : DpAll c.K (hmk S As H) vs ds) (h' : SqL c.K (hmk S As H) b ws) (r' : DpAll c.K (hmk S As H) ws es) :
    Walk c (ItzH c.K a b) (gTup c.K 2 (gCons (gName j) (gCons (gName k) gNil))) S As H [j, k] (prs ds es) kp := fun S2 As2 H2 M2 h1 g m _ => by
  have kk := later h1 g
  have hq := hmk_sqL (kk.sqL h)
  have hq' := hmk_sqL (kk.sqL h')
  have hl := dpAll_length r
  have hl' := dpAll_length r'
  refine ⟨⟨vs, ws, hq, hq', by rw [prs_len]; omega, by rw [prs_len]; omega, by rw [prs_len]; omega⟩, fun i us hi => ?_⟩
  obtain ⟨d1, d2, hd1, hd2, rfl⟩ := prs_get hi
  obtain ⟨x, hx, rx⟩ := dpAll_get r hd1
  obtain ⟨y, hy, ry⟩ := dpAll_get r' hd2
  refine ⟨⟨vs, ws, x, y, hq, hq', hx, hy⟩, fun z H3 ⟨T, x', y', ez, nT, e3, hx', hy'⟩ σ2 Q q => ?_⟩
  subst ez; subst e3
  have e1 : x' = x := Option.some.inj ((hx' vs hq).symm.trans hx)
  have e2 : y' = y := Option.some.inj ((hy' ws hq').symm.trans hy)
  subst e1; subst e2
  exact go_pair m nT (dp_kp kk _ _ rx) (dp_kp kk _ _ ry) q
theorem it_zipH {j k : Nat} {t : TA} {Q : List (List PyData) → List MO → Prop} (h : EA c t ρ M (fun ss M1 => ∃ ds es, ss = [.d (.list ds), .d (.list es)] ∧ Q (prs ds es) M1) X) :
    IT c (iZipH c.K t) (gTup c.K 2 (gCons (gName j) (gCons (gName k) gNil))) ρ M [j, k] kp0 Q X := fun S As σ H e m R kr kx =>
  h S As σ H e m _ (fun s M1 As1 vs H1 ⟨ds, es, ee, q⟩ g1 m1 r => by
    subst ee
    cases r with
    | cons r1 r2 =>
      cases r2 with
      | cons r2 r3 =>
        cases r3
        obtain ⟨a, vs, rfl, h1, h2⟩ := dp_lst r1
        obtain ⟨b, ws, rfl, h3, h4⟩ := dp_lst r2
        exact ⟨a, b, vs, ws, rfl, hmk_sqL h1, hmk_sqL h3, kr _ M1 As1 _ H1 q g1 m1 (walk_zipH h1 h2 h3 h4)⟩) kx
theorem dit_zipH {j k : Nat} {ds es : List PyData} {items : List (List PyData)} (h : Dv c ta ρ M (.list ds)) (h' : Dv c tb ρ M (.list es)) (e : prs ds es = items) :
    IT c (iZipH c.K (tCons ta (tCons tb tNil))) (gTup c.K 2 (gCons (gName j) (gCons (gName k) gNil))) ρ M [j, k] kp0 (fun it M1 => it = items ∧ M1 = M) X0 :=
  it_zipH (ea_da (da_cons h (da_cons h' da_nil)) ⟨ds, es, rfl, e, rfl⟩)
theorem dv_join {a : Str} {ys : List Str} (ho : Dv c ta ρ M (.str a)) (he : Dv c tb ρ M (.list (ys.map .str))) (hl : (ys.map (·.length)).sum + ys.length * a.length ≤ 16777216) :
    Dv c (tM1 (fun x xs H Q => ∃ a p, ∃ ys : List Str, x = .str a ∧ xs = [.ref p] ∧ (SqL c.K H p (ys.map V.str) ∨ SqT c.K H p (ys.map V.str)) ∧ (ys.map (·.length)).sum + ys.length * a.length ≤ 16777216 ∧ Q (.str (Txt.join a ys)) H) ta tb) ρ M (.str (Txt.join a ys)) := fun S As σ H e m R k _ =>
  ho S As σ H e m _ (fun s M1 As1 v H1 ⟨e1, e2⟩ g1 m1 r1 => by
    subst e1; subst e2
    cases r1
    refine ⟨⟨_, rfl⟩, he S As1 σ H1 (e.go g1) m1 _ (fun s M2 As2 v H2 ⟨e1, e2⟩ g2 m2 r2 => ?_) KX.none⟩
    subst e1; subst e2
    obtain ⟨p, vs, rfl, h1, h2⟩ := dp_lst r2
    obtain rfl := dp_strs h2
    exact ⟨_, p, ys, rfl, rfl, .inl (hmk_sqL h1), hl, k _ _ As2 _ H2 ⟨rfl, rfl⟩ (g1.trans g2) m2 (.str _)⟩) KX.none
theorem dit_lstR {js : List Nat} {n : Nat} {rs items : List (List PyData)} (h : Dv c te ρ M (.list (rowsD rs))) (hn : ∀ row ∈ rs, row.length = n) (hj : js.length = n) (e : rs = items) :
    IT c (iList c.K te) (gTup c.K n (gN js)) ρ M js kp0 (fun it M1 => it = items ∧ M1 = M) X0 := it_lstR (ev_dv h ⟨rs, rfl, hn, e, rfl⟩) hj
/-- enumerate over a tuple of rows, each taken apart -/
def enR (rs : List (List PyData)) : List (List PyData) := ((List.range rs.length).zip rs).map fun p => natD p.1 :: p.2
theorem enR_len (rs : List (List PyData)) : (enR rs).length = rs.length := by
  unfold enR
  rw [List.length_map, List.length_zip, List.length_range, Nat.min_self]
theorem enR_get {rs : List (List PyData)} {i : Nat} {es : List PyData} (h : (enR rs)[i]? = some es) : ∃ row, rs[i]? = some row ∧ es = natD i :: row := by
  unfold enR at h
  rw [List.getElem?_map] at h
  cases e : ((List.range rs.length).zip rs)[i]? with
  | none => rw [e] at h; cases h
  | some p =>
    rw [e] at h
    obtain ⟨h1, h2⟩ := List.getElem?_zip_eq_some.mp e
    have hi := (List.getElem?_eq_some_iff.mp h1).1
    rw [List.length_range] at hi
    rw [List.getElem?_range hi] at h1
    obtain rfl := Option.some.inj h1
    exact ⟨p.2, h2, (Option.some.inj h).symm⟩
theorem walk_enumR {a : Addr} {vs : List V} {rs : List (List PyData)} {j n : Nat} {js : List Nat} {kp : List MO → Prop} (h : SqT c.K (hmk S As H) a vs) (r : DpAll c.K (hmk S As H) vs (rowsD rs)) (hn : ∀ row ∈ rs, row.length = n) (hj : js.length = n) :
    Walk c (IteT c.K a) (gTup c.K 2 (gCons (gName j) (gCons (gTup c.K n (gN js)) gNil))) S As H (j :: js) (enR rs) kp := fun S2 As2 H2 M2 h1 g m _ => by
  have kk := later h1 g
  have hq := hmk_sqT (kk.sqT h)
  have hl := dpAll_length r
  unfold rowsD at hl
  rw [List.length_map] at hl
  refine ⟨⟨vs, hq, by rw [enR_len, hl]; exact Nat.le_refl _⟩, fun i es hi => ?_⟩
  obtain ⟨row, hrow, rfl⟩ := enR_get hi
  obtain ⟨x, hx, rx⟩ := dpAll_get (i := i) (d := .tuple row) r (by unfold rowsD; rw [List.getElem?_map, hrow]; rfl)
  refine ⟨⟨vs, x, hq, hx⟩, fun y H3 ⟨T, z, ey, nT, e3, hz⟩ σ2 Q q => ?_⟩
  subst ey; subst e3
  have : z = x := Option.some.inj ((hz vs hq).symm.trans hx)
  subst this
  have g2 := go_new (o := .tup [.int (i : Nat), z]) m nT
  have m2 := m.new (o := .tup [.int (i : Nat), z]) nT
  exact ⟨T, _, rfl, .inl (.inl upd_same), rfl, _, _, rfl, _, _, rfl, go_row m2 (dp_kp g2.kpm _ _ (dp_kp kk _ _ rx)) (hn row (List.mem_of_getElem? hrow)) hj fun us g3 m3 r3 hl3 =>
    ⟨rfl, q (.int (i : Nat) :: us) g2 m2 (.cons (.int _) r3) (by rw [List.length_cons, List.length_cons, hl3])⟩⟩
theorem it_enumR {j n : Nat} {js : List Nat} {rs : List (List PyData)} {Q : List (List PyData) → List MO → Prop} (h : Dv c te ρ M (.tuple (rowsD rs))) (hn : ∀ row ∈ rs, row.length = n) (hj : js.length = n) (q : Q (enR rs) M) :
    IT c (iEnumT c.K (tCons te tNil)) (gTup c.K 2 (gCons (gName j) (gCons (gTup c.K n (gN js)) gNil))) ρ M (j :: js) kp0 Q X := fun S As σ H e m R kr kx =>
  (da_cons h da_nil) S As σ H e m _ (fun s M1 As1 vs H1 ⟨es, e2⟩ g1 m1 r => by
    subst es; subst e2
    cases r with
    | cons r1 r2 =>
      cases r2
      obtain ⟨a, ws, rfl, h1, h2⟩ := dp_tup r1
      exact ⟨a, ws, rfl, hmk_sqT h1, kr _ _ As1 _ H1 q g1 m1 (walk_enumR h1 h2 hn hj)⟩) KX.none
theorem inV_bools (b : Bool) : ∀ bs : List Bool, inV (.bl b) (bs.map V.bl) = decide (b ∈ bs)
  | [] => by simp [inV]
  | n :: ns => by
    have ih := inV_bools b ns
    show ((n == b) || inV (.bl b) (ns.map V.bl)) = _
    rw [ih]
    cases n <;> cases b <;> simp
/-- b not in an own list of bools -/
theorem dv_notInB {n j : Nat} {bs : List Bool} {b : Bool} (ha : Dv c ta ρ M (.bool b)) (hx : ρ[n]? = some (.m j)) (hj : M[j]? = some (.lst (bs.map .bool))) : Dv c (tOp (rIn c.K true) ta (tVar n)) ρ M (.bool (!decide (b ∈ bs))) :=
  ev_op (ev_dv ha (ev_var hx (fun z => nomatch z) fun S As H v w hv hw m R k => by
    cases hv
    obtain ⟨a, ea, rfl⟩ := hw
    obtain ⟨a', ea', _, ws, eH, r⟩ := m.ex hj
    rw [ea] at ea'; cases ea'
    obtain rfl := dp_bls r
    refine ⟨a, _, rfl, .inl (.inl (.inl eH)), rfl, by rw [List.all_map]; simp [flatV, Function.comp_def], ?_⟩
    show R (.bl (!inV (.bl b) (bs.map V.bl))) H
    rw [inV_bools]
    exact k.here ⟨rfl, rfl⟩ m (.bl _)))
end
end DL

set_option Elab.async false
set_option linter.all false
set_option autoImplicit false
set_option maxRecDepth 100000
set_option maxHeartbeats 4000000
/-! lists or tuples alike; list + list of any lists; dicts of data. -/
namespace L2
open PySem PySem.Spec PyProof.Rows
section
variable {X : Cx} {K : PySem.W.Frag}
def rIxA (K : PySem.W.Frag) : R2 := fun x y H Q => rIxL K x y H Q ∨ rIxT K x y H Q
theorem ix_any : IxR X (rIxA X.K) := fun value slice pins s σ H x y v u Q I rx ry h he =>
  h.elim (fun h => ix_list value slice pins s σ H x y v u Q I rx ry h he) (fun h => ix_tup value slice pins s σ H x y v u Q I rx ry h he)
theorem kIxA (h : X.K = K) : IxR X (rIxA K) := h ▸ ix_any
def iEnumA (K : PySem.W.Frag) (ta : TA) : TI := fun σ H R => iEnum K ta σ H R ∨ DL.iEnumT K ta σ H R
theorem pi_enumA {e : Expr} {ta : TA} {p pos tpos : Pos} {elts : List Expr} {kk : Nat} (hg : Gl X "enumerate") (hm : X.mg "enumerate" = none) (ha : PA X [e] ta) (hs : starEach [e] X.env = [(false, eval e X.env)] := by rfl) :
    PI X (.Tuple elts kk tpos) (.Call (.Name "enumerate" p) [e] [] pos) (iEnumA X.K ta) := ⟨fun pins s σ H R I h =>
  h.elim (fun h => (pi_enum hg hm ha hs).run pins s σ H R I h) (fun h => (DL.pi_enumT hg hm ha hs).run pins s σ H R I h)⟩
theorem kPiEnA {e : Expr} {ta : TA} {p pos tpos : Pos} {elts : List Expr} {kk : Nat} (h : X.K = K) (hg : Gl X "enumerate") (hm : X.mg "enumerate" = none) (ha : PA X [e] ta) (hs : starEach [e] X.env = [(false, eval e X.env)] := by rfl) :
    PI X (.Tuple elts kk tpos) (.Call (.Name "enumerate" p) [e] [] pos) (iEnumA K ta) := h ▸ pi_enumA hg hm ha hs
def rCatL (K : PySem.W.Frag) : R2 := fun x y H Q => ∃ l b xs zs, x = .ref l ∧ y = .ref b ∧ SqL K H l xs ∧ SqL K H b zs ∧ xs.length + zs.length ≤ sizeLine ∧ ∀ p, H p = none → Q (.ref p) (upd H p (.lst (xs ++ zs)))
theorem op_catL : OpR X (binaryOp .Add) (rCatL X.K) := by
  intro pins s σ H x y v u Q I rx ry h
  obtain ⟨l, b, xs, zs, rfl, rfl, hH, hB, hz, q⟩ := h
  cases rx
  cases ry
  obtain ⟨its, r, p, _⟩ := I.list hH
  obtain ⟨its2, r2, p2, _⟩ := I.list hB
  obtain ⟨⟨cls, dd, data, sl⟩, n, ho, hc, _, hd⟩ := p
  obtain ⟨⟨cls2, dd2, data2, sl2⟩, n2, ho2, hc2, _, hd2⟩ := p2
  simp only at hc hd hc2 hd2
  subst hc hd hc2 hd2
  have e : its.toArray ++ its2.toArray = (its ++ its2).toArray := by simp
  have hl := r.length
  have hl2 := r2.length
  refine concat_meets ⟨_, ho, rfl⟩ ⟨_, ho2, rfl⟩ noFill_list_add seq_list_add PySem.F.slot_list_add PySem.F.entry_list_add (PySem.F.args_list_add_2 _ _) (list_addW l b its.toArray its2.toArray n n2 dd dd2 sl sl2 (by simp; omega)) ⟨ho, ho2, ?_⟩
  rw [e]
  exact ⟨.ref _, _, I.lnew (t' := s.toks) (r.append r2) (by rw [List.length_append]; omega), rfl, q _ I.fresh⟩
theorem kCatL (h : X.K = K) : OpR X (binaryOp .Add) (rCatL K) := h ▸ op_catL
/-- the keys of the locked dict at d, whatever its values are called -/
def ItkE (d : Addr) (o : Obj) (ks : List Key) : It :=
  ⟨fun i H => ∃ kv, H d = some (.frz o (.dK kv)) ∧ kv.map (·.1) = ks ∧ i < ks.length, fun i H x H' => H' = H ∧ ∃ k, ks[i]? = some k ∧ x = kV k, fun i H => ∃ kv, H d = some (.frz o (.dK kv)) ∧ kv.map (·.1) = ks ∧ ks.length ≤ i⟩
theorem turn_keysE {P : Program} {w : World} {K : PySem.W.Frag} {tg : Expr} {d : Addr} {o : Obj} {es : Array DictEntry} {ep : Nat} {ks : List Key} (it : Addr) (hod : o.data = .dict es ep) :
    Turn P w K tg (ItkE d o ks) [it] it (fun i h => h.IsKeyIter it d i ks.length ep) where
  mem := by simp
  obj := (turn_keys (P := P) (w := w) (K := K) (tg := tg) (kvs := ks.map fun k => (k, V.non)) (d := d) it hod).obj |> fun f i h st b hb => f i h (by rw [List.length_map]; exact st) b hb
  keep := (turn_keys (P := P) (w := w) (K := K) (tg := tg) (kvs := ks.map fun k => (k, V.non)) (d := d) it hod).keep |> fun f i h h' st k => by
    have := f i h h' (by rw [List.length_map]; exact st) k
    rwa [List.length_map] at this
  item := fun X hP hw hK hc i pins s σ H E I hf st hg => by
    obtain ⟨kv, hd, hk, hi⟩ := hg
    have hl : kv.length = ks.length := by rw [← hk, List.length_map]
    have h := (turn_keys (P := P) (w := w) (K := K) (tg := tg) (kvs := kv) (d := d) it hod).item X hP hw hK hc i pins s σ H E I hf (by rw [hl]; exact st) ⟨hd, by omega⟩
    refine wpAny_mono h (fun r s1 ⟨u, hr, h2⟩ => ⟨u, hr, wpAny_mono h2 (fun _ s2 ⟨x, H', I', rx, ⟨eH, k, v, hkv, ex⟩, t, f⟩ => ⟨x, H', I', rx, ⟨eH, k, ?_, ex⟩, ?_, f⟩) fun _ _ z => z⟩) fun _ _ z => z
    · rw [← hk, List.getElem?_map, hkv]; rfl
    · rw [hl] at t; exact t
  done := fun X hP hw hK hc i pins s σ H E I hf st hg => by
    obtain ⟨kv, hd, hk, hi⟩ := hg
    have hl : kv.length = ks.length := by rw [← hk, List.length_map]
    exact (turn_keys (P := P) (w := w) (K := K) (tg := tg) (kvs := kv) (d := d) it hod).done X hP hw hK hc i pins s σ H E I hf (by rw [hl]; exact st) ⟨hd, by omega⟩
  self := fun A i s Q E st h => wpAny_pyIter_keyiter st h
def iKeysE (td : TE) : TI := fun σ H R => td σ H fun x H1 => ∃ d o kv, x = .ref d ∧ H1 d = some (.frz o (.dK kv)) ∧ R (ItkE d o (kv.map (·.1))) H1
theorem pi_keysE {tg e : Expr} {td : TE} (he : PE X e td) : PI X tg e (iKeysE td) := by
  refine ⟨fun pins s σ H R I h => ?_⟩
  refine thn (he.run pins s σ H _ I h) fun u s1 ⟨x, H1, I1, rx, d, o, kv, ex, hd, q⟩ => ?_
  subst ex
  obtain rfl : u = Value.ref d := rx
  obtain ⟨hs, hgd, hx, es, ep, vs, hdt, hsz, kvv, hm⟩ := I1.frzK hd
  refine iter_keys hs hgd hx hdt (pi_one (tk := s1.toks) I1 _ (turn_keysE _ hdt) ⟨_, Heap.get?_push_size _ rfl, rfl, ?_⟩ q)
  rw [List.length_map, ← hsz] <;> rfl
/-- the thing at d is read only from here on -/
def tFrzE (t : TE) : TE := fun σ H Q => ∃ d u, H d = some u ∧ Mut (some u) ∧ ∀ od, t σ (upd H d (.frz od u)) Q
theorem pe_frzE {e : Expr} {t : TE} (h : PE X e t) : PE X e (tFrzE t) := by
  refine ⟨fun pins s σ H Q I hw => ?_⟩
  obtain ⟨d, u, hd, mu, hw⟩ := hw
  obtain ⟨od, I1⟩ := I.lock hd mu
  exact h.run pins s σ _ _ I1 (hw od)
end
end L2
namespace DL
open PySem PySem.Spec PyProof.Rows L2
section
variable {c : Cn} {S : Addr → Bool} {As As1 As2 : Ads} {H H1 : Hp} {M M1 M2 : List MO} {ρ : List Sl} {σ : L2.St} {P P' : Po} {ta tb tc te ti tl tk tx : TE} {s : Sl} {v w : V} {Q Q' : QS} {X : XP} {R : VK}
theorem dv_ixA {ds : List PyData} {i : Int} {d x : PyData} (ha : Dv c ta ρ M x) (hx : seqD x = some ds) (hb : Dv c tb ρ M (.int i)) (h : atD ds i = some d) : Dv c (tOp (rIxA c.K) ta tb) ρ M d :=
  dv_op ha hb fun S As H v w hv hw m R k => by
    obtain ⟨a, vs, rfl, h1, h2⟩ := dp_seq hv hx
    cases hw
    obtain ⟨u, e, r⟩ := atD_v h2 h
    rcases h1 with h1 | h1
    · exact .inl ⟨a, vs, i, u, rfl, rfl, hmk_sqL h1, e, k.here ⟨rfl, rfl⟩ m r⟩
    · exact .inr ⟨a, vs, i, u, rfl, rfl, hmk_sqT h1, e, k.here ⟨rfl, rfl⟩ m r⟩
theorem dit_enumA {j k : Nat} {ds : List PyData} {x : PyData} {items : List (List PyData)} (h : Dv c te ρ M x) (hx : seqD x = some ds) (e : prs (rngD 0 ds.length) ds = items) :
    IT c (iEnumA c.K (tCons te tNil)) (gTup c.K 2 (gCons (gName j) (gCons (gName k) gNil))) ρ M [j, k] kp0 (fun it M1 => it = items ∧ M1 = M) X0 := by
  cases x with
  | list ds' =>
    cases hx
    exact fun S As σ H e1 m R kr kx => .inl (dit_enum h e S As σ H e1 m R kr kx)
  | tuple ds' =>
    cases hx
    exact fun S As σ H e1 m R kr kx => .inr (dit_enumT h e S As σ H e1 m R kr kx)
  | _ => cases hx
theorem dl_catD {ds es : List PyData} (ha : Dv c ta ρ M (.list ds)) (hb : Dv c tb ρ M (.list es)) (hz : ds.length + es.length ≤ 100000) : Dl c (tOp (rCatL c.K) ta tb) ρ M (ds ++ es) :=
  dl_op ha hb fun S As H v w hv hw m R k => by
    obtain ⟨a, vs, rfl, h1, h2⟩ := dp_lst hv
    obtain ⟨b, ws, rfl, h3, h4⟩ := dp_lst hw
    have l1 := dpAll_length h2
    have l2 := dpAll_length h4
    have hs : ds.length + es.length ≤ sizeLine := Nat.le_trans hz (by decide)
    exact ⟨a, b, vs, ws, rfl, rfl, hmk_sqL h1, hmk_sqL h3, by omega, fun p hp => own_new m hp (by rw [List.length_append]; exact hs) (dpAll_append h2 h4) k ⟨rfl, rfl⟩⟩
/-! ### dicts of data -/
def keyD : Key → PyData
  | .inl i => .int i
  | .inr x => .str x
def valP (kvs : List (Key × PyData)) (k : Key) : Option PyData := (kvs.find? fun kv => decide (kv.1 = k)).map (·.2)
def putP (kvs : List (Key × PyData)) (k : Key) (d : PyData) : List (Key × PyData) :=
  if (kvs.any fun kv => decide (kv.1 = k)) = true then kvs.map (fun kv => if kv.1 = k then (kv.1, d) else kv) else kvs ++ [(k, d)]
abbrev zipK (kvs : List (Key × PyData)) (vs : List V) : List (Key × V) := (kvs.map (·.1)).zip vs
theorem val_zip {K : PySem.W.Frag} {H : Hp} (k : Key) : ∀ {kvs : List (Key × PyData)} {vs : List V}, DpAll K H vs (kvs.map (·.2)) → (valP kvs k = none ∧ valV (zipK kvs vs) k = none) ∨ ∃ d v, valP kvs k = some d ∧ valV (zipK kvs vs) k = some v ∧ Dp K H v d
  | [], vs, h => by
    cases h
    exact .inl ⟨rfl, rfl⟩
  | p :: kvs, vs, h => by
    have h' : DpAll K H vs (p.2 :: kvs.map (·.2)) := h
    cases h' with
    | cons h1 h2 =>
      rename_i v vs
      by_cases e : p.1 = k
      · exact .inr ⟨p.2, v, by unfold valP; rw [List.find?_cons, decide_eq_true e]; rfl, valV_pos (p := (p.1, v)) e, h1⟩
      · have e1 : valP (p :: kvs) k = valP kvs k := by unfold valP; rw [List.find?_cons, decide_eq_false e]
        have e2 : valV (zipK (p :: kvs) (v :: vs)) k = valV (zipK kvs vs) k := valV_neg (p := (p.1, v)) e
        rw [e1, e2]
        exact val_zip k h2
theorem any_zip {K : PySem.W.Frag} {H : Hp} (k : Key) : ∀ {kvs : List (Key × PyData)} {vs : List V}, DpAll K H vs (kvs.map (·.2)) → ((zipK kvs vs).any fun kv => decide (kv.1 = k)) = kvs.any fun kv => decide (kv.1 = k)
  | [], vs, h => by
    cases h
    rfl
  | p :: kvs, vs, h => by
    have h' : DpAll K H vs (p.2 :: kvs.map (·.2)) := h
    cases h' with
    | cons h1 h2 =>
      rename_i v vs
      show (decide (p.1 = k) || (zipK kvs vs).any fun kv => decide (kv.1 = k)) = (decide (p.1 = k) || kvs.any fun kv => decide (kv.1 = k))
      rw [any_zip k h2]
theorem map_zip {K : PySem.W.Frag} {H : Hp} {k : Key} {v : V} {d : PyData} (hv : Dp K H v d) : ∀ {kvs : List (Key × PyData)} {vs : List V}, DpAll K H vs (kvs.map (·.2)) →
    ∃ vs', (zipK kvs vs).map (fun kv => if kv.1 = k then (kv.1, v) else kv) = zipK (kvs.map fun kv => if kv.1 = k then (kv.1, d) else kv) vs' ∧ DpAll K H vs' ((kvs.map fun kv => if kv.1 = k then (kv.1, d) else kv).map (·.2))
  | [], vs, h => by
    cases h
    exact ⟨[], rfl, .nil⟩
  | p :: kvs, vs, h => by
    have h' : DpAll K H vs (p.2 :: kvs.map (·.2)) := h
    cases h' with
    | cons h1 h2 =>
      rename_i u vs
      obtain ⟨vs', e, r⟩ := map_zip (k := k) hv h2
      by_cases hk : p.1 = k
      · refine ⟨v :: vs', ?_, ?_⟩
        · show (if p.1 = k then (p.1, v) else (p.1, u)) :: (zipK kvs vs).map _ = zipK ((if p.1 = k then (p.1, d) else p) :: kvs.map fun kv => if kv.1 = k then (kv.1, d) else kv) (v :: vs')
          rw [if_pos hk, if_pos hk, e]; rfl
        · show DpAll K H (v :: vs') (((if p.1 = k then (p.1, d) else p) : Key × PyData).2 :: _)
          rw [if_pos hk]
          exact .cons hv r
      · refine ⟨u :: vs', ?_, ?_⟩
        · show (if p.1 = k then (p.1, v) else (p.1, u)) :: (zipK kvs vs).map _ = zipK ((if p.1 = k then (p.1, d) else p) :: kvs.map fun kv => if kv.1 = k then (kv.1, d) else kv) (u :: vs')
          rw [if_neg hk, if_neg hk, e]; rfl
        · show DpAll K H (u :: vs') (((if p.1 = k then (p.1, d) else p) : Key × PyData).2 :: _)
          rw [if_neg hk]
          exact .cons h1 r
theorem put_zip {K : PySem.W.Frag} {H : Hp} {k : Key} {v : V} {d : PyData} (hv : Dp K H v d) {kvs : List (Key × PyData)} {vs : List V} (h : DpAll K H vs (kvs.map (·.2))) :
    ∃ vs', putK (zipK kvs vs) k v = zipK (putP kvs k d) vs' ∧ DpAll K H vs' ((putP kvs k d).map (·.2)) := by
  unfold putK putP
  rw [any_zip k h]
  by_cases ha : (kvs.any fun kv => decide (kv.1 = k)) = true
  · rw [if_pos ha, if_pos ha]
    exact map_zip hv h
  · rw [if_neg ha, if_neg ha]
    have hl := dpAll_length h
    rw [List.length_map] at hl
    refine ⟨vs ++ [v], ?_, ?_⟩
    · unfold zipK
      rw [List.map_append, List.zip_append (by rw [List.length_map, hl])]
      rfl
    · rw [List.map_append]
      exact dpAll_append h (.cons hv .nil)
theorem putP_len (kvs : List (Key × PyData)) (k : Key) (d : PyData) : (putP kvs k d).length ≤ kvs.length + 1 := by
  unfold putP
  split
  · rw [List.length_map]; omega
  · rw [List.length_append]; exact Nat.le_refl _
theorem zipK_len {K : PySem.W.Frag} {H : Hp} {kvs : List (Key × PyData)} {vs : List V} (h : DpAll K H vs (kvs.map (·.2))) : (zipK kvs vs).length = kvs.length := by
  have hl := dpAll_length h
  rw [List.length_map] at hl
  unfold zipK
  rw [List.length_zip, List.length_map, hl, Nat.min_self]
theorem ev_dnewD (q : Q (.m M.length) (M ++ [.dd none []])) : EV c tDNewK ρ M Q X := fun S As σ H e m R k kx => fun p hp => by
  have g2 := go_own (o := .dK []) m hp
  exact k _ _ (As ++ [p]) _ _ q g2 (m.own hp ⟨Nat.zero_le _, [], upd_same, .nil⟩) ⟨p, by rw [← m.len]; simp, rfl⟩
theorem ex_setD {n jd : Nat} (hx : ρ[n]? = some (.m jd)) (h : EV c te ρ M (fun s M1 => ∃ d, s = .d d ∧ EV c tl ρ M1 (fun s2 M2 => ∃ kvs i, s2 = .d (.int i) ∧ M2[jd]? = some (.dd none kvs) ∧ kvs.length < 100000 ∧ P.nx ρ (M2.set jd (.dd none (putP kvs (.inl i) d)))) (fun C M' => P.xp C ρ M')) (fun C M' => P.xp C ρ M')) :
    EX c (tAsg te (gSub (tVar n) tl rSetD)) ρ M P := fun S As σ H e m D k1 k2 k3 k4 k5 =>
  h S As σ H e m _ (fun s M1 As1 v H1 ⟨d, es, q1⟩ g1 m1 r1 => by
    subst es
    obtain ⟨u, e1, r⟩ := (e.go g1).at_ n _ hx (fun z => nomatch z)
    obtain ⟨a, ea, rfl⟩ := r
    refine ⟨.ref a, e1, q1 S As1 σ H1 (e.go g1) m1 _ (fun s2 M2 As2 w H2 ⟨kvs, i, hs, hj, hl, qn⟩ g2 m2 r2 => ?_) ((k5.at_ e).go g1)⟩
    subst hs
    cases r2
    obtain ⟨b, eb, hz, vs, hH, rr⟩ := m2.ex hj
    rw [g2.ix ea] at eb; cases eb
    have r1' : SlR c.K S As2 H2 v (.d d) := SlR.go g2 r1
    obtain ⟨vs', ep, rp⟩ := put_zip (k := .inl i) r1' rr
    have hH : H2 a = some (.dK (zipK kvs vs)) := hH
    have hsz : kvs.length < sizeLine := Nat.lt_of_lt_of_le hl (by decide)
    refine ⟨a, _, rfl, DPut.k (kvs := zipK kvs vs) (k := .inl i) hH (by rw [zipK_len rr]; exact hsz), ?_⟩
    rw [ep]
    have g4 := go_mut (o := .dK (zipK (putP kvs (.inl i) d) vs')) m2 (g2.ix ea) hH rfl (fun φ z => nomatch z)
    exact k1 _ _ As2 _ _ qn ((g1.trans g2).trans g4) (((e.go g1).go g2).go g4) (m2.mut (g2.ix ea) hH rfl (fun φ z => nomatch z) ⟨Nat.le_trans (putP_len _ _ _) hsz, vs', upd_same, dpAll_kp g4.kpm _ _ rp⟩)) (k5.at_ e)
theorem rd_dkO {H : Hp} {a : Addr} {fz : Option Obj} {kvs : List (Key × V)} (h : H a = some (dkO fz kvs)) : L2.Rd H a (.dK kvs) := by
  cases fz with
  | none => exact .inl h
  | some o => exact .inr ⟨o, h⟩
/-- d.get(i, x) -/
theorem dv_dget2 {n j : Nat} {fz : Option Obj} {kvs : List (Key × PyData)} {k : Key} {z : PyData} (hx : ρ[n]? = some (.m j)) (hj : M[j]? = some (.dd fz kvs)) (h1 : Dv c tk ρ M (keyD k)) (h2 : Dv c tx ρ M z) :
    Dv c (tDGet2 (tVar n) tk tx) ρ M ((valP kvs k).getD z) := fun S As σ H e m R kr _ => by
  obtain ⟨v, e1, r⟩ := e.at_ n _ hx (fun z => nomatch z)
  obtain ⟨a, ea, rfl⟩ := r
  obtain ⟨b, eb, hz, vs, hH, rr⟩ := m.ex hj
  rw [ea] at eb; cases eb
  refine ⟨.ref a, e1, a, rfl, .inl ⟨_, rd_dkO hH⟩, h1 S As σ H e m _ (fun s1 M1 As1 v1 H1 ⟨es, em⟩ g1 m1 r1 => ?_) KX.none⟩
  subst es; subst em
  refine h2 S As1 σ H1 (e.go g1) m1 _ (fun s2 M2 As2 v2 H2 ⟨es, em⟩ g2 m2 r2 => ?_) KX.none
  subst es; subst em
  obtain ⟨b, eb, hz2, vs2, hH2, rr2⟩ := m2.ex hj
  rw [g2.ix (g1.ix ea)] at eb; cases eb
  have hk : v1 = kV k := by
    cases k <;> cases r1 <;> rfl
  subst hk
  refine ⟨_, .inl ⟨_, k, rd_dkO hH2, rfl, rfl⟩, ?_⟩
  rcases val_zip k rr2 with ⟨e1, e2⟩ | ⟨d, v, e1, e2, rv⟩
  · rw [show valV ((kvs.map (·.1)).zip vs2) k = none from e2]
    rw [e1] at kr
    exact kr _ _ As2 _ H2 ⟨rfl, rfl⟩ (g1.trans g2) m2 r2
  · rw [show valV ((kvs.map (·.1)).zip vs2) k = some v from e2]
    rw [e1] at kr
    exact kr _ _ As2 _ H2 ⟨rfl, rfl⟩ (g1.trans g2) m2 rv
/-- d[i] -/
theorem dv_dget {n j : Nat} {fz : Option Obj} {kvs : List (Key × PyData)} {k : Key} {z : PyData} (hx : ρ[n]? = some (.m j)) (hj : M[j]? = some (.dd fz kvs)) (h1 : Dv c tk ρ M (keyD k)) (h2 : valP kvs k = some z) :
    Dv c (tDGet (tVar n) tk) ρ M z := fun S As σ H e m R kr _ => by
  obtain ⟨v, e1, r⟩ := e.at_ n _ hx (fun z => nomatch z)
  obtain ⟨a, ea, rfl⟩ := r
  refine ⟨.ref a, e1, h1 S As σ H e m _ (fun s1 M1 As1 v1 H1 ⟨es, em⟩ g1 m1 r1 => ?_) KX.none⟩
  subst es; subst em
  obtain ⟨b, eb, hz2, vs2, hH2, rr2⟩ := m1.ex hj
  rw [g1.ix ea] at eb; cases eb
  have hk : v1 = kV k := by
    cases k <;> cases r1 <;> rfl
  subst hk
  rcases val_zip k rr2 with ⟨e1, e2⟩ | ⟨d, v, e1, e2, rv⟩
  · rw [h2] at e1; cases e1
  · rw [h2] at e1; cases e1
    exact ⟨a, v, rfl, .inl ⟨_, k, rd_dkO hH2, rfl, e2.symm⟩, kr _ _ As1 _ H1 ⟨rfl, rfl⟩ g1 m1 rv⟩
/-- k in d -/
theorem dv_din {n j : Nat} {fz : Option Obj} {kvs : List (Key × PyData)} {k : Key} (hx : ρ[n]? = some (.m j)) (hj : M[j]? = some (.dd fz kvs)) (h1 : Dv c tk ρ M (keyD k)) :
    Dv c (tDIn tk (tVar n)) ρ M (.bool (valP kvs k).isSome) := fun S As σ H e m R kr _ =>
  h1 S As σ H e m _ (fun s1 M1 As1 v1 H1 ⟨es, em⟩ g1 m1 r1 => by
    subst es; subst em
    obtain ⟨v, e1, r⟩ := (e.go g1).at_ n _ hx (fun z => nomatch z)
    obtain ⟨a, ea, rfl⟩ := r
    obtain ⟨b, eb, hz2, vs2, hH2, rr2⟩ := m1.ex hj
    rw [ea] at eb; cases eb
    have hk : v1 = kV k := by
      cases k <;> cases r1 <;> rfl
    subst hk
    refine ⟨.ref a, e1, a, _, rfl, .inl ⟨_, k, rd_dkO hH2, rfl, rfl⟩, ?_⟩
    rcases val_zip k rr2 with ⟨e1, e2⟩ | ⟨d, v, e1, e2, rv⟩
    · rw [show valV ((kvs.map (·.1)).zip vs2) k = none from e2]
      rw [e1] at kr
      exact kr _ _ As1 _ H1 ⟨rfl, rfl⟩ g1 m1 (.bl _)
    · rw [show valV ((kvs.map (·.1)).zip vs2) k = some v from e2]
      rw [e1] at kr
      exact kr _ _ As1 _ H1 ⟨rfl, rfl⟩ g1 m1 (.bl _)) KX.none
/-- read only from here on -/
theorem ev_frzE {j : Nat} {kvs : List (Key × PyData)} (hj : M[j]? = some (.dd none kvs)) (h : ∀ od, EV c te ρ (M.set j (.dd (some od) kvs)) Q X) : EV c (tFrzE te) ρ M Q X := fun S As σ H e m R k kx => by
  obtain ⟨a, ea, hz, vs, hH, rr⟩ := m.ex hj
  have hH : H a = some (.dK (zipK kvs vs)) := hH
  refine ⟨a, _, hH, trivial, fun od => ?_⟩
  have g4 := go_mut (o := .frz od (.dK (zipK kvs vs))) m ea hH rfl (fun φ z => nomatch z)
  have m4 := m.mut (mo := .dd (some od) kvs) (o := .frz od (.dK (zipK kvs vs))) ea hH rfl (fun φ z => nomatch z) ⟨hz, vs, upd_same, dpAll_kp g4.kpm _ _ rr⟩
  exact h od S As σ _ (e.go g4) m4 R (k.go g4) (kx.go g4)
/-- the keys of a locked dict -/
theorem walk_keysD {a : Addr} {od : Obj} {kvs : List (Key × PyData)} {j n : Nat} (hn : As[n]? = some a) :
    Walk c (ItkE a od (kvs.map (·.1))) (gName j) S As H [j] (ones (kvs.map fun p => keyD p.1)) (fun M => M[n]? = some (.dd (some od) kvs)) := fun S2 As2 H2 M2 h1 g m hm => by
  obtain ⟨b, eb, hz, vs, hH, rr⟩ := m.ex hm
  rw [g.ix hn] at eb; cases eb
  have hl := dpAll_length rr
  rw [List.length_map] at hl
  have hk : (zipK kvs vs).map (·.1) = kvs.map (·.1) := by
    show ((kvs.map (·.1)).zip vs).map Prod.fst = _
    rw [List.map_fst_zip]
    rw [List.length_map, hl]
    exact Nat.le_refl _
  refine ⟨⟨_, hH, hk, by rw [ones_len, List.length_map, List.length_map]; exact Nat.le_refl _⟩, fun i es hi => ?_⟩
  obtain ⟨d, hd, rfl⟩ := ones_get hi
  rw [List.getElem?_map] at hd
  cases hp : kvs[i]? with
  | none => rw [hp] at hd; cases hd
  | some p =>
    rw [hp] at hd
    obtain rfl := Option.some.inj hd
    have hil := (List.getElem?_eq_some_iff.mp hp).1
    refine ⟨⟨_, hH, hk, by rw [List.length_map]; exact hil⟩, fun x H3 ⟨e3, k, hkv, ex⟩ σ2 Q q => ?_⟩
    subst e3
    rw [List.getElem?_map, hp] at hkv
    obtain rfl := Option.some.inj hkv
    subst ex
    refine go_same m ?_ q
    show Dp c.K (hmk S2 As2 H3) (kV p.1) (keyD p.1)
    cases p.1 with
    | inl i => exact .int _
    | inr s => exact .str _
theorem it_keysD {i j n : Nat} {od : Obj} {kvs : List (Key × PyData)} {Q : List (List PyData) → List MO → Prop} (hx : ρ[i]? = some (.m n)) (hj : M[n]? = some (.dd (some od) kvs)) (q : Q (ones (kvs.map fun p => keyD p.1)) M) :
    IT c (iKeysE (tVar i)) (gName j) ρ M [j] (fun M => M[n]? = some (.dd (some od) kvs)) Q X := fun S As σ H e m R k kx => by
  obtain ⟨v, e1, r⟩ := e.at_ i _ hx (fun z => nomatch z)
  obtain ⟨a, ea, rfl⟩ := r
  obtain ⟨b, eb, hz, vs, hH, rr⟩ := m.ex hj
  rw [ea] at eb; cases eb
  have hl := dpAll_length rr
  rw [List.length_map] at hl
  have hk : (zipK kvs vs).map (·.1) = kvs.map (·.1) := by
    show ((kvs.map (·.1)).zip vs).map Prod.fst = _
    rw [List.map_fst_zip]
    rw [List.length_map, hl]
    exact Nat.le_refl _
  have hH : H a = some (.frz od (.dK (zipK kvs vs))) := hH
  refine ⟨.ref a, e1, a, od, _, rfl, hH, ?_⟩
  rw [hk]
  exact k _ M As _ H q (.refl _ _) m (walk_keysD ea)
/-- a pair of an own object and data -/
theorem ev_tupP {t : TA} (h : EA c t ρ M (fun ss M1 => ∃ j x, ss = [.m j, .d x] ∧ Q (.pr (.inr j) (.inl x)) M1) X) : EV c (tTup t) ρ M Q X := fun S As σ H e m R k kx =>
  h S As σ H e m _ (fun ss M1 As1 vs H1 ⟨j, x, es, q⟩ g m1 r => by
    subst es
    cases r with
    | cons r1 r =>
      cases r with
      | cons r2 r =>
        rename_i v2 _
        cases r
        refine ⟨by show 2 ≤ sizeLine; decide, fun p hp => ?_⟩
        obtain ⟨a1, ea1, rfl⟩ := r1
        have g2 := go_new (o := .tup [.ref a1, v2]) m1 hp
        obtain ⟨hs, hn⟩ := m1.fresh hp
        exact k _ M1 As1 _ _ q (g.trans g2) (m1.new hp) ⟨p, _, _, rfl, hmk_of hs hn upd_same, ⟨a1, ea1, rfl⟩, SlR.go (s := .d x) g2 r2⟩) kx
/-- i, j = a pair of an own object and data -/
theorem ex_asgPr {i j : Nat} (h : EV c te ρ M (fun s M1 => ∃ m x, s = .pr (.inr m) (.inl x) ∧ P.nx ((ρ.set i (.m m)).set j (.d x)) M1) (fun C M' => P.xp C ρ M')) :
    EX c (tAsg te (gTup c.K 2 (gCons (gName i) (gCons (gName j) gNil)))) ρ M P := fun S As σ H e m D k1 k2 k3 k4 k5 =>
  h S As σ H e m _ (fun s M1 As1 v H1 ⟨mm, x, es, q⟩ g m1 r => by
    subst es
    obtain ⟨p, v1, v2, rfl, h1, h2, h3⟩ := r
    obtain ⟨a1, ea1, rfl⟩ := h2
    refine ⟨p, _, rfl, .inl (.inl (hmk_some h1).2.2), rfl, _, _, rfl, _, _, rfl, rfl, k1 _ M1 As1 _ H1 q g (((e.go g).set i (s := .m mm) ⟨a1, ea1, rfl⟩).set j (s := .d x) h3) m1⟩) (k5.at_ e)
theorem ev_sumE (h : EV c ta ρ M (fun s M1 => ∃ ns : List Int, s = .d (.list (ns.map .int)) ∧ Q (.d (.int ns.sum)) M1) X) : EV c (tCB (rSumA c.K) (tCons ta tNil)) ρ M Q X :=
  ev_cb (ea_cons (EV.imp h (fun s M1 ⟨ns, es, q⟩ => by
    subst es
    exact ea_nil fun S As H vs hv m R k => by
      obtain ⟨v, rfl, r⟩ := slrs1 hv
      obtain ⟨a, ws, rfl, h1, h2⟩ := dp_seq r.dp rfl
      have := dp_ints h2
      subst this
      exact ⟨a, ns, rfl, h1, k.here q m (.int _)⟩) fun _ _ z => z))
end
end DL

set_option Elab.async false
set_option linter.all false
set_option autoImplicit false
set_option maxRecDepth 100000
set_option maxHeartbeats 4000000
/-! < and >= of alike data. -/
namespace L2
open PySem PySem.Spec PyProof.Rows PySem.W
section
variable {X : Cx} {K : PySem.W.Frag}
def rLtD (K : PySem.W.Frag) : R2 := fun x y H Q => ∃ d e, Dp K H x d ∧ Dp K H y e ∧ alike d e = true ∧ d ≠ .none ∧ d.depth ≤ 64 ∧ Q (.bl (dataLt d e)) H
def rGeD (K : PySem.W.Frag) : R2 := fun x y H Q => ∃ d e, Dp K H x d ∧ Dp K H y e ∧ alike d e = true ∧ d ≠ .none ∧ d.depth ≤ 64 ∧ Q (.bl (!dataLt d e)) H
theorem op_ltD (hu : X.A.units + 64 < cLine) : OpR X (compareOp .Lt) (rLtD X.K) := by
  intro pins s σ H x y v u Q I rx ry h
  obtain ⟨d, e, hd, he, ha, hn, hp, q⟩ := h
  obtain ⟨as, r1⟩ := Dp.reads I d x v hd rx
  obtain ⟨bs, r2⟩ := Dp.reads I e y u he ry
  exact lt_data r1 r2 ha hn (by have := Nat.min_le_left d.depth e.depth; omega) ⟨.bl _, H, I, rfl, q⟩
theorem op_geD (hu : X.A.units + 64 < cLine) : OpR X (compareOp .GtE) (rGeD X.K) := by
  intro pins s σ H x y v u Q I rx ry h
  obtain ⟨d, e, hd, he, ha, hn, hp, q⟩ := h
  obtain ⟨as, r1⟩ := Dp.reads I d x v hd rx
  obtain ⟨bs, r2⟩ := Dp.reads I e y u he ry
  exact ge_data r1 r2 ha hn (by have := Nat.min_le_left d.depth e.depth; omega) ⟨.bl _, H, I, rfl, q⟩
end
end L2
namespace DL
open PySem PySem.Spec PyProof.Rows L2 PySem.W
section
variable {c : Cn} {M : List MO} {ρ : List Sl} {ta tb : TE}
theorem dv_ltD {x y : PyData} (ha : Dv c ta ρ M x) (hb : Dv c tb ρ M y) (h : alike x y = true) (hn : x ≠ .none) (hp : x.depth ≤ 64) : Dv c (tOp (rLtD c.K) ta tb) ρ M (.bool (dataLt x y)) :=
  dv_op ha hb fun S As H v w hv hw m R k => ⟨x, y, hv.dp, hw.dp, h, hn, hp, k.here ⟨rfl, rfl⟩ m (.bl _)⟩
theorem dv_geD {x y : PyData} (ha : Dv c ta ρ M x) (hb : Dv c tb ρ M y) (h : alike x y = true) (hn : x ≠ .none) (hp : x.depth ≤ 64) : Dv c (tOp (rGeD c.K) ta tb) ρ M (.bool (!dataLt x y)) :=
  dv_op ha hb fun S As H v w hv hw m R k => ⟨x, y, hv.dp, hw.dp, h, hn, hp, k.here ⟨rfl, rfl⟩ m (.bl _)⟩
end
end DL

set_option Elab.async false
set_option linter.all false
set_option autoImplicit false
set_option maxRecDepth 100000
set_option maxHeartbeats 4000000
/-! an instance made in a try suite (its __init__ raises); lists of data put together; statements never reached. -/
namespace L2
open PySem PySem.Spec PyProof.Rows
section
variable {X : Cx} {CX : CXT} {k : Nat} {f C : Addr} {fd : FuncData} {ps : List Str} {sp : Sp} {E : St → XK} {x m : Str} {p pos apos : Pos} {e o : Expr} {es : List Expr} {ta : TE} {t : TA}
theorem run_makeS {pins : List (Addr × Obj)} {σ : St} {H : Hp} {s : Shared} {Q : VK} {us : List Value} {vs : List V} (M : Mk X.K C f) (F : FnOk X.prog X.w X.K X.mg X.base CX k f fd ps sp) (hr : Room (k + 1) X.A) (hb : Binds X.K fd ps [])
    (hx : PassesAt CX X σ (E σ)) (I : Inv X pins σ H s) (r : Vals vs us)
    (h : ∀ x dx, H x = none → H dx = none → dx ≠ x → sp (.ref x :: vs) (upd (upd H dx (.own x)) x (.ins C dx [])) (fun v H2 => v = .non ∧ Q (.ref x) H2) (E σ)) :
    wpAny (model X.prog X.w) X.A (call (.ref C) us) (EP X pins σ Q) X.xe s := by
  have hq := h (s.heap.objs.size + 1) s.heap.objs.size (I.hok.fresh (Nat.le_succ _)) (I.hok.fresh (Nat.le_refl _)) (Nat.ne_of_lt (Nat.lt_succ_self _))
  have I2 := Inv.made (C := C) I
  have r2 : Vals (V.ref (s.heap.objs.size + 1) :: vs) (Value.ref (s.heap.objs.size + 1) :: us) := .cons rfl r
  have hl : (Value.ref (s.heap.objs.size + 1) :: us).length = ps.length := by
    have e := r2.length
    rw [F.len _ _ _ _ hq] at e
    exact e.symm
  have b := hb (Inv.made (C := C) I |> fun _ => _) (Value.ref (s.heap.objs.size + 1) :: us) I2.kIn (by rw [List.append_nil]; exact hl)
  rw [List.append_nil] at b
  refine wpAny_call (make_map (f := f) I.kIn M.makes M.init (beq_iff_eq.mp M.fn) (codeAny_mono (F.run _ X.stack _ _ ⟨Value.ref (s.heap.objs.size + 1) :: us, []⟩ (Value.ref (s.heap.objs.size + 1) :: us) _ _ (E σ) (hr.make C us [])
    (I2.env0.make C us []) b r2 hq) fun r s' hq' => ?_))
  cases r with
  | error e => exact hx pins _ _ e s' I2 hq'
  | ok fl =>
    cases fl with
    | ret u =>
      obtain ⟨v, H', I3, rv, ev, q3⟩ := I2.after hq'
      subst ev
      exact ⟨rv, ⟨V.ref (s.heap.objs.size + 1), H', I3, rfl, q3⟩⟩
    | next => exact False.elim hq'
    | brk => exact False.elim hq'
    | cont => exact False.elim hq'
def tMakeS (C : Addr) (sp : Sp) (E : St → XK) (t : TA) : TE := fun σ H Q => t σ H fun vs H1 => ∀ x dx, H1 x = none → H1 dx = none → dx ≠ x → sp (.ref x :: vs) (upd (upd H1 dx (.own x)) x (.ins C dx [])) (fun v H2 => v = .non ∧ Q (.ref x) H2) (E σ)
theorem pe_makeS (F : FnOk X.prog X.w X.K X.mg X.base CX k f fd ps sp) (hr : Room (k + 1) X.A) (M : Mk X.K C f) (hg : Gl X x) (hm : X.mg x = some (.ref C)) (hb : Binds X.K fd ps []) (hx : ∀ σ, PassesAt CX X σ (E σ))
    (ha : PA X (e :: es) t) (hdb : (x == ("__debug__" : Str)) = false := by decide) (he : starEach (e :: es) X.env = (false, eval e X.env) :: starEach es X.env := by rfl) (hpl : (backTo pos (starEach es X.env)).any (·.1) = false := by rfl) :
    PE X (.Call (.Name x p) (e :: es) [] pos) (tMakeS C sp E t) := by
  refine ⟨fun pins s σ H Q I h => ?_⟩
  refine wpAny_Call_Name_kw (ld_glob I hg hm ?_ hdb)
  refine PySem.W.callWith_K (h₀ := X.base) I.ok.mod.kin M.kp (thn (ha.run pos pins s σ H _ I h) fun us s1 ⟨vs, H1, I1, r, q⟩ => ⟨I1.kIn, ?_⟩) he hpl
  exact run_makeS M F hr hb (hx σ) I1 r q
end
end L2
namespace DL
open PySem PySem.Spec PyProof.Rows L2
section
variable {c : Cn} {S : Addr → Bool} {As As1 As2 : Ads} {H H1 : Hp} {M M1 M2 : List MO} {ρ : List Sl} {σ : L2.St} {P P' : Po} {ta tb tc te : TE} {s : Sl} {v w : V} {Q Q' : QS} {X : XP} {R : VK}
/-- C(..) whose __init__ raises -/
theorem ev_makeS {Cl : Addr} {W : Wd} {t : TA} {ds : List PyData} {E : L2.St → XK} (hE : E = c.E) (ha : Da c t ρ M ds) (hW : ∀ sv, W (.v sv :: ds.map .d) [] (fun _ _ => False) (fun C' M' => X C' (M ++ M'))) :
    EV c (tMakeS Cl (spW c.K c.T W) E t) ρ M Q X := fun S As σ H e m R k kx =>
  ha S As σ H e m _ (fun ss M1 As1 vs H1 ⟨es, em⟩ g1 m1 r1 x dx hx hdx hne => by
    subst es; subst em; subst hE
    have ga := go_new (o := .own x) m1 hdx
    have ma := m1.new (o := .own x) hdx
    have hx2 : (upd H1 dx (.own x)) x = none := by rw [upd_ne (Ne.symm hne)]; exact hx
    have gb := go_new (o := .ins Cl dx []) ma hx2
    have mb := ma.new (o := .ins Cl dx []) hx2
    have r2 := (r1.go ga).go gb
    refine ⟨hidS S As1, [], .v (.ref x) :: ds.map .d, [], _, _, ?_, rm_in mb, hW _, fun s M' q => q.elim, fun C M' q As' H' g m' => ?_⟩
    · exact slrs_in (c := c) (.cons rfl r2) (fun s hs => by
        rcases List.mem_cons.mp hs with rfl | hs
        · trivial
        · obtain ⟨d, _, rfl⟩ := List.mem_map.mp hs; trivial)
    · obtain ⟨g2, m2, _⟩ := go_out mb g m'
      exact kx C _ _ H' q (((g1.trans ga).trans gb).trans g2) m2) KX.none
/-- list + list of data -/
theorem ev_catD (h : EV c ta ρ M (fun s1 M1 => ∃ ds, s1 = .d (.list ds) ∧ EV c tb ρ M1 (fun s2 M2 => ∃ es, s2 = .d (.list es) ∧ ds.length + es.length ≤ 100000 ∧ Q (.m M2.length) (M2 ++ [.lst (ds ++ es)])) X) X) : EV c (tOp (rCatL c.K) ta tb) ρ M Q X :=
  ev_op (EV.imp h (fun s1 M1 ⟨ds, e1, h2⟩ => EV.imp h2 (fun s2 M2 ⟨es, e2, hz, q⟩ => by
    subst e1; subst e2
    intro S As H v w hv hw m R k
    obtain ⟨a, vs, rfl, h1, h2⟩ := dp_lst hv
    obtain ⟨b, ws, rfl, h3, h4⟩ := dp_lst hw
    have l1 := dpAll_length h2
    have l2 := dpAll_length h4
    have hs : ds.length + es.length ≤ sizeLine := Nat.le_trans hz (by decide)
    exact ⟨a, b, vs, ws, rfl, rfl, hmk_sqL h1, hmk_sqL h3, by omega, fun p hp => own_new m hp (by rw [List.length_append]; exact hs) (dpAll_append h2 h4) k q⟩) fun _ _ z => z) fun _ _ z => z)
theorem ev_catT (h : EV c ta ρ M (fun s1 M1 => ∃ ds, s1 = .d (.tuple ds) ∧ EV c tb ρ M1 (fun s2 M2 => ∃ es, s2 = .d (.tuple es) ∧ ds.length + es.length ≤ 100000 ∧ Q (.d (.tuple (ds ++ es))) M2) X) X) : EV c (tOp (rCatA c.K) ta tb) ρ M Q X :=
  ev_op (EV.imp h (fun s1 M1 ⟨ds, e1, h2⟩ => EV.imp h2 (fun s2 M2 ⟨es, e2, hz, q⟩ => by
    subst e1; subst e2
    intro S As H v w hv hw m R k
    obtain ⟨a, vs, rfl, h1, h2⟩ := dp_tup hv
    obtain ⟨b, ws, rfl, h3, h4⟩ := dp_tup hw
    refine ⟨a, b, vs, ws, rfl, rfl, hmk_sqT h1, hmk_sqT h3, by rw [dpAll_length h2, dpAll_length h4]; exact Nat.le_trans hz (by decide), fun e => ?_, fun _ e => ?_, fun _ _ p hp => new_tup m hp (dpAll_append h2 h4) k q⟩
    · subst e
      have : ds = [] := by cases h2; rfl
      subst this
      exact k.here q m hw
    · subst e
      have : es = [] := by cases h4; rfl
      subst this
      rw [List.append_nil] at q
      exact k.here q m hv) fun _ _ z => z) fun _ _ z => z)
theorem dl_rep1 {d : PyData} {n : Int} (ha : Dv c te ρ M d) (hb : Dv c tb ρ (M ++ [.lst [d]]) (.int n)) (h0 : n ≤ 100000) (h1 : -100000 ≤ n) : Dl c (tOp rRep (tLst (tCons te tNil)) tb) ρ M (List.replicate n.toNat d) :=
  ev_lose (EV.imp (dv_rep1 ha hb h0 h1) (fun s M' ⟨e1, e2⟩ => by
    subst e1; subst e2
    exact ⟨[.lst [d], .lst (List.replicate n.toNat d)], 1, .lst (List.replicate n.toNat d), by simp, by simp, rfl, rfl, rfl⟩) fun _ _ z => z)
theorem dv_isBl {x y : Bool} (ha : Dv c ta ρ M (.bool x)) (hb : Dv c tb ρ M (.bool y)) : Dv c (tOp rIsB ta tb) ρ M (.bool (decide (x = y))) :=
  dv_op ha hb fun S As H v w hv hw m R k => by
    cases hv
    cases hw
    exact ⟨x, y, rfl, rfl, k.here ⟨rfl, rfl⟩ m (.bl _)⟩
end
end DL

set_option Elab.async false
set_option linter.all false
set_option autoImplicit false
set_option maxRecDepth 100000
set_option maxHeartbeats 4000000
/-! DL: a lambda handed to a def, whose body calls a def of the frame. -/
namespace DL
open PySem PySem.Spec PySem.Calls PyProof.Rows PySem.W L2 NdefX
theorem lam_later {P : Program} {w : World} {K : PySem.W.Frag} {mg : Str → Option Value} {base : Heap} {k nl : Nat} {f : Addr} {O : ClO} {sp : Spc} {fs1 : List Addr} {s s1 : Shared} {H H1 : Hp}
    (L : ∀ fs, LamRun P w K mg base k f O nl sp fs s H) (un : Un fs1 [] H H1 s.heap s1.heap) (fs : List Addr) : LamRun P w K mg base k f O nl sp fs s1 H1 := fun A outer s2 H2 us vs Q hr e0 un2 hf hc r hl q =>
  L (fs1 ++ fs) A outer s2 H2 us vs Q hr e0 ((un.mono (fun b hb => List.mem_append_left _ hb) fun b hb => hb).trans (un2.mono (fun b hb => List.mem_append_right _ hb) fun b hb => hb)) hf hc r hl q
theorem lamrun_ofN {P : Program} {w : World} {K : PySem.W.Frag} {mg : Str → Option Value} {base : Heap} {k k2 nl2 : Nat} {f f2 : Addr} {O2 : ClO} {sp2 : Spc} {F : NF} {body : Expr} {N ps fr : List Str} {fs : List Addr} {s : Shared} {H : Hp} {ws : List (Option V)} {tb : TE} (S : NScope N ps fr F.scope) (C : CellsAt F.cl fr ws s.heap H)
    (L : ∀ fs, LamRun P w K mg base k2 f2 O2 nl2 sp2 fs s H)
    (hbind : ∀ (pm ctv : Value) (us : List Value), us.length = ps.length → bindArgs (PySem.W.kla_fn "<lambda>" F.qual F.params body F.scope F.cl pm (.ref F.c) ctv) ⟨us, []⟩ = pure (ps.zip us))
    (hbody : ∀ (A : Around) (outer : List Env) (s : Shared) (H : Hp), Room k (A.deeper (envF F f s.heap.objs.size)) → (∀ fs, LamRun P w K mg base k2 f2 O2 nl2 sp2 fs s H) → PE (ncx (L2N.CX P w) P w K mg base N F f A outer s H E0) body tb) :
    LamRun P w K mg base k f (lamC F body) ps.length (fun vs H Q => tb (startF N vs ws) H Q) fs s H := by
  intro A outer s1 H1 us vs Q hr e0 un hf hc r hl q
  obtain ⟨pm, ctv, of1⟩ := lamO_at e0.hok hf
  have lim : s1.heap.NoLimit := e0.mod.nolimit.keeps fun b o e => (e0.bs b o e).1
  refine PySem.W.kla_callFunE hr.depth of1 rfl S.co S.gen rfl (codeO_at e0.hok hc) ?_
  rw [hbind pm ctv us (by rw [← r.length]; exact hl)]
  refine wpAny_pure (wpAny_newFunctionEnv S.nocell (fun ⟨n, _⟩ hy => S.par n (List.of_mem_zip hy).1) (fun h₁ hns hsb => ⟨lim.fresh _ hsb, ?_⟩) S.kind)
  show codeAny _ _ (.expr body (envF F f s1.heap.objs.size)) _ _
  have kp : ∀ b o, s1.heap.get? b = some o → h₁.get? b = some o := fun b o e => hsb.extBut b o (Nat.ne_of_lt (Heap.lt_size e)) (Heap.get?_push_of_some _ e)
  have J : Inv (ncx (L2N.CX P w) P w K mg base N F f A outer s1 H1 E0) [] (startF N vs ws) H1 { s1 with heap := h₁, toks := s1.toks + (ps.zip us).length } := inv_startN S hr.hd e0 hl r (cells_laterU C un) hns kp
  refine PySem.W.kla_codeExpr (wpAny_mono ((hbody A outer s1 H1 (hr.deeper _) (lam_later L un)).run [] _ _ H1 Q J q) (fun v s' hq => ?_) fun e s' hq => hq)
  obtain ⟨w', H', J', rv, q⟩ := hq
  exact ⟨w', H', J'.os, J'.bare, J'.base, J'.hok, rv, q⟩
def tCallCN (spG : Addr → ClO → Nat → Spc → Sp) (mk : Addr → ClO) (nl : Nat) (tb : Addr → Addr → L2.St → TE) (Nl : List Str) (js : List Nat) (t : TA) : TE := fun σ H Q => t σ H fun vs H1 => ∃ f c' f2 c2', H1 f = some ((mk c').ob f) ∧ H1 (mk c').c = some (LamX.CodeO (mk c').c (mk c').q) ∧
  spG f (mk c') nl (fun vs' H' Q' => tb f2 c2' σ (startF Nl vs' (js.map (slotAt σ))) H' Q') vs H1 Q E0
section
variable {X : Cx} {CX : CXT} {k kl kl2 : Nat} {g : Addr} {fd : FuncData} {psG : List Str} {spG : Addr → ClO → Nat → Spc → Sp} {body : Expr} {body2 : List Stmt} {tb : Addr → Addr → L2.St → TE} {ts2 : TS} {N ps fr N2 ps2 fr2 : List Str} {js js2 : List Nat} {x name2 : Str} {e : Expr} {es : List Expr} {t : TA} {p pos : Pos} {scope scope2 : Scope} {params params2 : Arguments}
theorem pe_callCN (G : GvOk X.prog X.w X.K X.mg X.base k kl g fd psG spG) (hr : Room k X.A) (hg : Gl X x) (hm : X.mg x = some (.ref g)) (hk : PySem.W.keepIn X.K (.ref g) = true) (hb : L2.Binds X.K fd psG [])
    (hfree : ∀ y ∈ scope.names, y.2 = .free → X.env.scope.names.lookup y.1 = some .cell ∨ X.env.scope.names.lookup y.1 = some .free) (hfr : ∀ y ∈ fr, (y, NameKind.free) ∈ scope.names) (hjs : js.map (fun j => X.N[j]?) = fr.map some) (S : NScope N ps fr scope)
    (hbind : ∀ (q : Str) (cl : List (Str × Addr)) (pm cv ctv : Value) (us : List Value), us.length = ps.length → bindArgs (PySem.W.kla_fn "<lambda>" q params body scope cl pm cv ctv) ⟨us, []⟩ = pure (ps.zip us))
    (hfree2 : ∀ y ∈ scope2.names, y.2 = .free → X.env.scope.names.lookup y.1 = some .cell ∨ X.env.scope.names.lookup y.1 = some .free) (hfr2 : ∀ y ∈ fr2, (y, NameKind.free) ∈ scope2.names) (hjs2 : js2.map (fun j => X.N[j]?) = fr2.map some) (S2 : NScope N2 ps2 fr2 scope2)
    (hbind2 : ∀ (q : Str) (cl : List (Str × Addr)) (c : Addr) (doc pm ctv : Value) (us : List Value), us.length = ps2.length → bindArgs ((⟨name2, q, params2, body2, scope2, cl, c⟩ : NF).fd doc pm ctv) ⟨us, []⟩ = pure (ps2.zip us))
    (hbody2 : ∀ (f c' : Addr) (A : Around) (outer : List Env) (s : Shared) (H : Hp), Room kl2 (A.deeper (envF (mkN X name2 params2 body2 scope2 c') f s.heap.objs.size)) → PSs (ncx (L2N.CX X.prog X.w) X.prog X.w X.K X.mg X.base N2 (mkN X name2 params2 body2 scope2 c') f A outer s H E0) body2 ts2)
    (hbody : ∀ (f c' f2 c2' : Addr) (σ : L2.St) (A : Around) (outer : List Env) (s : Shared) (H : Hp), Room kl (A.deeper (envF (mkF X params scope c') f s.heap.objs.size)) →
      (∀ fs, LamRun X.prog X.w X.K X.mg X.base kl2 f2 (fnC (mkN X name2 params2 body2 scope2 c2')) ps2.length (fun vs' H' Q' => tBody ts2 (startF N2 vs' (js2.map (slotAt σ))) H' Q') fs s H) →
      PE (ncx (L2N.CX X.prog X.w) X.prog X.w X.K X.mg X.base N (mkF X params scope c') f A outer s H E0) body (tb f2 c2' σ))
    (ha : PA X (e :: es) t) (hdb : (x == ("__debug__" : Str)) = false := by decide)
    (he : starEach (e :: es) X.env = (false, eval e X.env) :: starEach es X.env := by rfl) (hpl : (backTo pos (starEach es X.env)).any (·.1) = false := by rfl) :
    PE X (.Call (.Name x p) (e :: es) [] pos) (tCallCN spG (fun c' => lamC (mkF X params scope c') body) ps.length tb N js t) := by
  refine ⟨fun pins s σ H Q I h => ?_⟩
  refine wpAny_Call_Name_kw (ld_glob I hg hm ?_ hdb)
  refine PySem.W.callWith_K (h₀ := X.base) I.ok.mod.kin hk (thn (ha.run pos pins s σ H _ I h) fun us s2 ⟨vs, H2, I2, r, q⟩ => ⟨I2.kIn, ?_⟩) he hpl
  obtain ⟨f, c', f2, c2', h1, h2, q⟩ := q
  have hl : us.length = psG.length := by rw [← r.length]; exact G.len _ _ _ _ _ _ _ _ q
  have C : CellsAt (mkF X params scope c').cl fr (js.map (slotAt σ)) s2.heap H2 := cells_of I2 (Caps.made I2.ok hfree hfr hjs)
  have C2 : CellsAt (mkN X name2 params2 body2 scope2 c2').cl fr2 (js2.map (slotAt σ)) s2.heap H2 := cells_of I2 (Caps.made I2.ok hfree2 hfr2 hjs2)
  have L2' : ∀ fs, LamRun X.prog X.w X.K X.mg X.base kl2 f2 (fnC (mkN X name2 params2 body2 scope2 c2')) ps2.length (fun vs' H' Q' => tBody ts2 (startF N2 vs' (js2.map (slotAt σ))) H' Q') fs s2 H2 := fun fs =>
    lamrun_fn (N := N2) (ps := ps2) (fr := fr2) S2 C2 (fun doc pm ctv us hu => hbind2 _ _ _ _ _ _ us hu) (fun A outer s H hr => hbody2 f2 c2' A outer s H hr)
  have L : LamRun X.prog X.w X.K X.mg X.base kl f (lamC (mkF X params scope c') body) ps.length (fun vs' H' Q' => tb f2 c2' σ (startF N vs' (js.map (slotAt σ))) H' Q') (frs X.stack) s2 H2 :=
    lamrun_ofN (N := N) (ps := ps) (fr := fr) S C L2' (fun pm ctv us hu => hbind _ _ _ _ _ us hu) (fun A outer s H hr l => hbody f c' f2 c2' σ A outer s H hr l)
  show wpAny _ _ (call (.ref g) us) _ _ _
  refine wpAny_call (codeAny_mono (G.run X.A X.stack s2 H2 ⟨us, []⟩ us vs Q f _ _ _ hr I2.env0 (by have := hb s2 us I2.kIn (by rw [List.append_nil]; exact hl); rw [List.append_nil] at this; exact this) r L q) fun r s' hq => ?_)
  cases r with
  | error e => exact passN pins σ H2 s2 e s' I2 hq
  | ok fl =>
    cases fl with
    | ret u => exact I2.after hq
    | next => exact False.elim hq
    | brk => exact False.elim hq
    | cont => exact False.elim hq
end
section
variable {X : Cx} {CX : CXT} {k kl kl2 : Nat} {g : Addr} {fd : FuncData} {psG : List Str} {spG : Addr → ClO → Nat → Spc → Sp} {body : Expr} {body2 : List Stmt} {tb : Addr → Addr → L2.St → TE} {ts2 : TS} {N ps fr N2 ps2 fr2 : List Str} {js js2 : List Nat} {x name2 : Str} {e1 e2 : Expr} {t1 t2 : TE} {p pos lpos : Pos} {scope scope2 : Scope} {params params2 : Arguments} {T : List NTab} {c P : Addr}
/-- g(e1, e2, lambda ..), the lambda's body calls the def name2 of this frame -/
theorem pe_callCN2 (G : GvOk X.prog X.w X.K X.mg X.base k kl g fd psG spG) (hr : Room k X.A) (hg : Gl X x) (hm : X.mg x = some (.ref g)) (hk : PySem.W.keepIn X.K (.ref g) = true) (hb : L2.Binds X.K fd psG [])
    {sc : Scope} (hsc : X.env.scope = sc) (hdc : ndefB sc scope fr = true) (hjs : js.map (fun j => X.N[j]?) = fr.map some) (S : NScope N ps fr scope)
    (hbind : ∀ (q : Str) (cl : List (Str × Addr)) (pm cv ctv : Value) (us : List Value), us.length = ps.length → bindArgs (PySem.W.kla_fn "<lambda>" q params body scope cl pm cv ctv) ⟨us, []⟩ = pure (ps.zip us))
    (hdc2 : ndefB sc scope2 fr2 = true) (hjs2 : js2.map (fun j => X.N[j]?) = fr2.map some) (S2 : NScope N2 ps2 fr2 scope2)
    (hbind2 : ∀ (q : Str) (cl : List (Str × Addr)) (c : Addr) (doc pm ctv : Value) (us : List Value), us.length = ps2.length → bindArgs ((⟨name2, q, params2, body2, scope2, cl, c⟩ : NF).fd doc pm ctv) ⟨us, []⟩ = pure (ps2.zip us))
    (TB : LamX.TabB X.base X.mg c P) (hcode : X.env.code = .ref c) {nm : Nat → Nat → Str} (hmT : (P, nm) ∈ T) (hnm : nm lpos.line lpos.col = X.env.qual ++ "<lambda>") (hu : ∀ p ∈ T, p.1 = P → p.2 = nm) (hdef : defaultsOf params X.env = ([], []))
    (hbody2 : ∀ (f c' : Addr) (A : Around) (outer : List Env) (s : Shared) (H : Hp), Room kl2 (A.deeper (envF (mkN X name2 params2 body2 scope2 c') f s.heap.objs.size)) → PSs (ncx (L2N.CX X.prog X.w) X.prog X.w X.K X.mg X.base N2 (mkN X name2 params2 body2 scope2 c') f A outer s H E0) body2 ts2)
    (hbody : ∀ (f c' f2 c2' : Addr) (σ : L2.St) (A : Around) (outer : List Env) (s : Shared) (H : Hp), Room kl (A.deeper (envF (mkF X params scope c') f s.heap.objs.size)) →
      (∀ fs, LamRun X.prog X.w X.K X.mg X.base kl2 f2 (fnC (mkN X name2 params2 body2 scope2 c2')) ps2.length (fun vs' H' Q' => tBody ts2 (startF N2 vs' (js2.map (slotAt σ))) H' Q') fs s H) →
      PE (ncx (L2N.CX X.prog X.w) X.prog X.w X.K X.mg X.base N (mkF X params scope c') f A outer s H E0) body (tb f2 c2' σ))
    (h1 : PE X e1 t1) (h2 : PE X e2 t2) (hdb : (x == ("__debug__" : Str)) = false := by decide)
    (he : starEach [e1, e2, .Lambda params body scope lpos] X.env = (false, eval e1 X.env) :: starEach [e2, .Lambda params body scope lpos] X.env := by rfl) (hpl : (backTo pos (starEach [e2, .Lambda params body scope lpos] X.env)).any (·.1) = false := by rfl)
    (he2 : starEach [e2, .Lambda params body scope lpos] X.env = (false, eval e2 X.env) :: starEach [.Lambda params body scope lpos] X.env := by rfl) :
    PE X (.Call (.Name x p) [e1, e2, .Lambda params body scope lpos] [] pos) (tCallCN spG (fun c' => lamC (mkF X params scope c') body) ps.length tb N js (tCons t1 (tCons t2 (tCons (tMkLam T fun c' => lamC (mkF X params scope c') body) tNil)))) :=
  pe_callCN G hr hg hm hk hb (hsc ▸ ndef_free hdc) (ndef_fr hdc) hjs S hbind (hsc ▸ ndef_free hdc2) (ndef_fr hdc2) hjs2 S2 hbind2 hbody2 hbody (pa_cons h1 (pa_cons h2 (pa_cons (pe_lam TB hcode hmT hnm hu hdef (hsc ▸ ndef_free hdc)) pa_nil) he2) he) hdb he hpl
end
/-! ### DL -/
section
variable {c : Cn} {S : Addr → Bool} {As As1 : Ads} {H H1 : Hp} {M M1 : List MO} {ρ : List Sl} {σ : L2.St} {P P' : Po} {Q : QS} {X : XP}
theorem re_startS {K : PySem.W.Frag} {N : List Str} {vs : List V} {ws : List (Option V)} {ds : List PyData} {caps : List Sl} (h : DpAll K (hmk S As H) vs ds) (hl : ws.length = caps.length) (hN : ds.length + caps.length ≤ N.length)
    (hc : ∀ (i : Nat) (d : Sl), caps[i]? = some d → ∃ v, ws[i]? = some (some v) ∧ SlR K S As H v d) : RE K S As H (startF N vs ws) (ds.map .d ++ (caps ++ unS (N.length - ds.length - caps.length))) := by
  have hv := dpAll_length h
  unfold startF
  refine ⟨by simp [unS_len, hv, hl], fun i s e n => ?_⟩
  by_cases h1 : i < ds.length
  · rw [List.getElem?_append_left (by rw [List.length_map]; exact h1), List.getElem?_map] at e
    cases hd : ds[i]? with
    | none => rw [hd] at e; cases e
    | some d =>
      rw [hd] at e
      obtain rfl := Option.some.inj e
      obtain ⟨v, h2, h3⟩ := dpAll_get h hd
      refine ⟨v, ?_, h3⟩
      rw [List.getElem?_append_left (by rw [List.length_map, hv]; exact h1), List.getElem?_map, h2]
      rfl
  · rw [List.getElem?_append_right (by rw [List.length_map]; omega), List.length_map] at e
    rw [List.getElem?_append_right (by rw [List.length_map]; omega), List.length_map, hv]
    by_cases h2 : i - ds.length < caps.length
    · rw [List.getElem?_append_left h2] at e
      obtain ⟨v, h3, h4⟩ := hc _ s e
      exact ⟨v, by rw [List.getElem?_append_left (by omega)]; exact h3, h4⟩
    · rw [List.getElem?_append_right (by omega)] at e
      exact absurd (unS_get e) n
/-- captured: data, or (none) the frame's def -/
def capS (C : Sl) (caps : List (Option PyData)) : List Sl := caps.map fun o => match o with | some d => .d d | none => C
theorem capS_len (C : Sl) (caps : List (Option PyData)) : (capS C caps).length = caps.length := List.length_map _
theorem ev_callCN {W : WdC} {mk mk2 : Addr → ClO} {nl nl2 : Nat} {tb : Addr → Addr → L2.St → TE} {tb2 : TE} {Nl Nl2 : List Str} {js js2 : List Nat} {ta : TA} (jf : Nat) (caps : List (Option PyData)) (caps2 : List PyData) (g g2 : ClG) (hjf : ρ[jf]? = some (LmS mk2))
    (hcap : js.map (fun j => ρ[j]?) = (capS (LmS mk2) caps).map some) (hcj : ∀ i : Nat, caps[i]? = some none → js[i]? = some jf) (hN : nl + caps.length ≤ Nl.length)
    (hcap2 : js2.map (fun j => ρ[j]?) = caps2.map fun d => some (Sl.d d)) (hN2 : nl2 + caps2.length ≤ Nl2.length)
    (hb : ∀ (f2 c2' : Addr) (σ : L2.St) (ds : List PyData) (z : PyData) (M' : List MO), g ds z → ds.length = nl ∧ Dv ⟨c.K, c.T, fun _ => E0⟩ (tb f2 c2' σ) (ds.map .d ++ (capS (ClS c.K c.T f2 (mk2 c2') nl2 (fun vs' H' Q' => tb2 (startF Nl2 vs' (js2.map (slotAt σ))) H' Q') g2) caps ++ unS (Nl.length - ds.length - caps.length))) M' z)
    (hb2 : ∀ (ds : List PyData) (z : PyData) (M' : List MO), g2 ds z → ds.length = nl2 ∧ Dv ⟨c.K, c.T, fun _ => E0⟩ tb2 (ds.map .d ++ (caps2.map .d ++ unS (Nl2.length - ds.length - caps2.length))) M' z)
    (h : EA c ta ρ M (fun ss M1 => ∃ as : List PyData, ss = as.map .d ++ [LmS mk] ∧ ∀ C : ClG → Sl, W C (as.map .d ++ [C g]) [] (fun s M' => Q (shS M1.length s) (M1 ++ M')) X0) X) : EV c (tCallCN (spGW c.K c.T W) mk nl tb Nl js ta) ρ M Q X := fun S As σ H e m R k kx =>
  h S As σ H e m _ (fun ss M1 As1 vs H1 ⟨as, es, hW⟩ g1 m1 r1 => by
    subst es
    obtain ⟨vs0, v, rfl, r0, rl⟩ := slrs_snoc r1
    obtain ⟨f, c', rfl, hf, hc⟩ := rl S As1 H1 (Kp.refl _)
    obtain ⟨v2, e2, r2⟩ := e.at_ jf _ hjf (fun z => nomatch z)
    obtain ⟨f2, c2', rfl, hf2, hc2⟩ := r2 S As H (Kp.refl _)
    refine ⟨f, c', f2, c2', (hmk_some hf).2.2, (hmk_some hc).2.2, ?_⟩
    have hlen : js.length = caps.length := by have := congrArg List.length hcap; rw [List.length_map, List.length_map, capS_len] at this; exact this
    have hlen2 : js2.length = caps2.length := by have := congrArg List.length hcap2; simpa using this
    have clo2 : ∀ S' As' H', Kp (hmk S As H) (hmk S' As' H') → SlR c.K S' As' H' (.ref f2) (ClS c.K c.T f2 (mk2 c2') nl2 (fun vs' H' Q' => tb2 (startF Nl2 vs' (js2.map (slotAt σ))) H' Q') g2) := fun S1 As' H' k1 S' As2 H2 k2 => by
      have kk := k1.trans k2
      refine ⟨rfl, kk _ _ hf2 ((mk2 c2').ext f2).2, kk _ _ hc2 rfl, fun M' vs ds z m' dp hg => ?_⟩
      obtain ⟨hl, hd⟩ := hb2 ds z M' hg
      refine ⟨by rw [dpAll_length dp]; exact hl, fun R' kR => hd S' As2 _ H2 ?_ m' R' kR KX.none⟩
      refine re_startF dp (by rw [List.length_map]; exact hlen2) (by omega) fun i d hi => ?_
      have hj : (js2.map fun j => ρ[j]?)[i]? = some (some (.d d)) := by rw [hcap2, List.getElem?_map, hi]; rfl
      rw [List.getElem?_map] at hj
      cases ej : js2[i]? with
      | none => rw [ej] at hj; cases hj
      | some j =>
        rw [ej] at hj
        have hj2 : ρ[j]? = some (.d d) := Option.some.inj hj
        obtain ⟨v, e1, r⟩ := e.at_ j _ hj2 (fun z => nomatch z)
        refine ⟨v, by rw [List.getElem?_map, ej]; show some (slotAt σ j) = _; rw [slotAt_of e1], ?_⟩
        exact dp_kp kk d v r
    have clo : SlR c.K (hidS S As1) [] H1 (.ref f) (ClS c.K c.T f (mk c') nl (fun vs' H' Q' => tb f2 c2' σ (startF Nl vs' (js.map (slotAt σ))) H' Q') g) := fun S' As' H' kk => by
      rw [hidS_nil] at kk
      refine ⟨rfl, kk _ _ hf ((mk c').ext f).2, kk _ _ hc rfl, fun M' vs ds z m' dp hg => ?_⟩
      obtain ⟨hl, hd⟩ := hb f2 c2' σ ds z M' hg
      refine ⟨by rw [dpAll_length dp]; exact hl, fun R' kR => hd S' As' _ H' ?_ m' R' kR KX.none⟩
      rw [← capS_len (ClS c.K c.T f2 (mk2 c2') nl2 (fun vs' H' Q' => tb2 (startF Nl2 vs' (js2.map (slotAt σ))) H' Q') g2) caps]
      refine re_startS dp (by rw [List.length_map, capS_len]; exact hlen) (by rw [capS_len]; omega) fun i s hi => ?_
      unfold capS at hi
      rw [List.getElem?_map] at hi
      cases ho : caps[i]? with
      | none => rw [ho] at hi; cases hi
      | some o =>
        rw [ho] at hi
        obtain rfl := Option.some.inj hi
        cases o with
        | none =>
          refine ⟨.ref f2, by rw [List.getElem?_map, hcj i ho]; show some (slotAt σ jf) = _; rw [slotAt_of e2], ?_⟩
          exact clo2 S' As' H' (g1.kpm.trans kk)
        | some d =>
          have hj : (js.map fun j => ρ[j]?)[i]? = some (some (.d d)) := by
            rw [hcap, List.getElem?_map]
            unfold capS
            rw [List.getElem?_map, ho]; rfl
          rw [List.getElem?_map] at hj
          cases ej : js[i]? with
          | none => rw [ej] at hj; cases hj
          | some j =>
            rw [ej] at hj
            have hj2 : ρ[j]? = some (.d d) := Option.some.inj hj
            obtain ⟨v, e1, r⟩ := e.at_ j _ hj2 (fun z => nomatch z)
            refine ⟨v, by rw [List.getElem?_map, ej]; show some (slotAt σ j) = _; rw [slotAt_of e1], ?_⟩
            exact dp_kp (g1.kpm.trans kk) d v r
    refine ⟨hidS S As1, [], as.map .d ++ [ClS c.K c.T f (mk c') nl (fun vs' H' Q' => tb f2 c2' σ (startF Nl vs' (js.map (slotAt σ))) H' Q') g], [], _, _, slrs_app (c := ⟨c.K, c.T, fun _ => E0⟩) (slrs_in (c := c) r0 (fun s hs => by obtain ⟨d, _, rfl⟩ := List.mem_map.mp hs; trivial)) (.cons clo .nil), rm_in m1, hW _, fun s M' q As' v H' g m' r => ?_, fun C M' q As' H' g m' => q.elim⟩
    obtain ⟨g2, m2, r2⟩ := go_out m1 g m'
    exact k _ _ _ v H' q (g1.trans g2) m2 (r2 r)) kx
end
end DL

set_option Elab.async false
set_option linter.all false
set_option autoImplicit false
set_option maxRecDepth 100000
set_option maxHeartbeats 4000000
/-! a def called in an except suite with the exception. -/
namespace L2
open PySem PySem.Spec PyProof.Rows L2H
/-- what a def promises while p is handled -/
structure FnP (P : Program) (w : World) (K : PySem.W.Frag) (mg : Str → Option Value) (base : Heap) (CX : CXT) (k : Nat) (f : Addr) (fd : FuncData) (ps : List Str) (sp : Addr × Obj → Sp) : Prop where
  len : ∀ p vs H Q E, sp p vs H Q E → vs.length = ps.length
  run : ∀ (A : Around) (outer : List Env) (s : Shared) (H : Hp) (args : Args) (us : List Value) (vs : List V) (Q : VK) (E : XK) (p : Addr × Obj), RoomH k A → Hot1 A p → PinOk outer H s p → Env0 P w K mg base A outer s H → BindsTo s fd args (ps.zip us) → Vals vs us → sp p vs H Q E →
    codeAny (model P w) A (.call (.ref f) args) (CR CX outer P w H s Q E) s
theorem fn_ofP {CX : CXT} {P : Program} {w : World} {K : PySem.W.Frag} {mg : Str → Option Value} {base : Heap} {k : Nat} {f : Addr} {name qual : Str} {params : Arguments} {body : List Stmt} {scope : Scope} {dV kV doc pm cdv ct oc : Value} {an od : Option Addr}
    {osl : Array (Option Value)} {N ps : List Str} {sp : Addr × Obj → Sp} (lk : K.lookup f = some ⟨oc, od, .func (PySem.W.fnOf name qual params body scope dV kV doc pm an cdv ct), osl⟩) (hcd : PySem.W.codeIn K cdv qual = true) (S : FnScope N ps scope)
    (len : ∀ p vs H Q E, sp p vs H Q E → vs.length = ps.length)
    (hbody : ∀ (A : Around) (outer : List Env) (s : Shared) (H : Hp) (vs : List V) (Q : VK) (E : XK) (p : Addr × Obj), Hot1 (A.deeper (envOfC qual scope s.heap.objs.size f cdv)) p → RoomH k (A.deeper (envOfC qual scope s.heap.objs.size f cdv)) → sp p vs H Q E →
      ∃ t, PSs (cxH CX P w K mg base N qual scope f cdv A outer s H E p) body t ∧ t { nx := fun _ H' => Q .non H', rt := Q } (L2.start N vs) H) :
    FnP P w K mg base CX (k + 1) f (PySem.W.fnOf name qual params body scope dV kV doc pm an cdv ct) ps sp := by
  refine ⟨len, fun A outer s H args us vs Q E p hr hot hpin e0 hb r hsp => ?_⟩
  have hl := len _ _ _ _ _ hsp
  have KX : K.In s.heap := e0.mod.kin.keeps fun b o e => (e0.bs b o e).1
  have lim : s.heap.NoLimit := e0.mod.nolimit.keeps fun b o e => (e0.bs b o e).1
  have hkind : ∀ y ∈ ps.zip us, scope.names.lookup y.1 = some .local ∨ (scope.names.lookup y.1 = some .cell ∧ ((cellsFrom (s.heap.objs.size + 1) scope.names []).lookup y.1).isSome = true) := fun ⟨n, v⟩ hy => by
    rcases S.par n (List.of_mem_zip hy).1 with q | q
    · exact .inl q
    · exact .inr ⟨q, PySem.W.cellsFrom_some _ _ _ (.inl q)⟩
  refine codeAny_call_function hr.depth (KX _ _ lk) rfl S.co S.gen rfl (PySem.W.codeRec_of KX hcd) (hb _ _ _ _ ?_)
  refine wpAny_newFunctionEnv_cells S.kind hkind fun env he s1 x => ?_
  subst he
  refine ⟨lim.keeps x.toInCall.keep, codeAny_func ?_⟩
  obtain ⟨t, ht, hq⟩ := hbody A outer s H vs Q E p hot (hr.deeper _) hsp
  have I : Inv (cxH CX P w K mg base N qual scope f cdv A outer s H E p) [] (L2.start N vs) H s1 := inv_startH S hpin e0 hl r x
  refine wpAny_mono (ht.run [] s1 (L2.start N vs) H _ I hq) (fun fl s' hs => ?_) fun e s' hs => hs
  have fin : ∀ {σ' : St} {H' : Hp} {v : V} {u : Value}, Inv (cxH CX P w K mg base N qual scope f cdv A outer s H E p) [] σ' H' s' → RelV v u → Q v H' → CE outer P w H s Q u s' :=
    fun {σ' H' v u} J rv q => ⟨v, H', J.os, J.bare, J.base, J.hok, rv, q⟩
  cases fl with
  | ret u =>
    obtain ⟨v, σ', H', J, rv, q⟩ := hs
    exact fin J rv q
  | next =>
    obtain ⟨σ', H', J, q⟩ := hs
    exact fin (v := V.non) (u := Value.none) J rfl q
  | brk =>
    obtain ⟨_, _, _, q⟩ := hs
    exact False.elim q
  | cont =>
    obtain ⟨_, _, _, q⟩ := hs
    exact False.elim q
section
variable {X : Cx} {CX : CXT} {k : Nat} {f C : Addr} {fd : FuncData} {ps : List Str} {sp : Addr × Obj → Sp} {E : St → XK} {x m : Str} {q pos apos : Pos} {e o : Expr} {es : List Expr} {ta : TE} {t : TA} {p : Addr × Obj}
theorem run_fnP {pins : List (Addr × Obj)} {σ : St} {H : Hp} {s : Shared} {Q : VK} {us : List Value} {vs : List V} (F : FnP X.prog X.w X.K X.mg X.base CX k f fd ps sp) (hr : RoomH k X.A) (hot : Hot1 X.A p) (hp : p ∈ X.pn) (hb : Binds X.K fd ps []) (hx : PassesAt CX X σ (E σ))
    (I : Inv X pins σ H s) (r : Vals vs us) (h : sp p vs H Q (E σ)) : wpAny (model X.prog X.w) X.A (call (.ref f) us) (EP X pins σ Q) X.xe s := by
  have hl : us.length = ps.length := by rw [← r.length]; exact F.len _ _ _ _ _ h
  have b := hb s us I.kIn (by rw [List.append_nil]; exact hl)
  rw [List.append_nil] at b
  have P1 := I.pin p (List.mem_append_left _ hp)
  have hpin : PinOk X.stack H s p := ⟨P1.1, P1.2.1, fun hm => (List.mem_cons.mp (I.stkSub p.1 hm)).elim P1.2.2.1 P1.2.2.2.1, P1.2.2.2.2⟩
  refine wpAny_call (codeAny_mono (F.run X.A X.stack s H ⟨us, []⟩ us vs Q (E σ) p hr hot hpin I.env0 b r h) fun r s' hq => ?_)
  cases r with
  | error e => exact hx pins H s e s' I hq
  | ok fl =>
    cases fl with
    | ret u => exact I.after hq
    | next => exact False.elim hq
    | brk => exact False.elim hq
    | cont => exact False.elim hq
theorem pe_callP (F : FnP X.prog X.w X.K X.mg X.base CX k f fd ps sp) (hr : RoomH k X.A) (hot : Hot1 X.A p) (hp : p ∈ X.pn) (hg : Gl X x) (hm : X.mg x = some (.ref f)) (hk : PySem.W.keepIn X.K (.ref f) = true) (hb : Binds X.K fd ps []) (hx : ∀ σ, PassesAt CX X σ (E σ))
    (ha : PA X (e :: es) t) (hdb : (x == ("__debug__" : Str)) = false := by decide) (he : starEach (e :: es) X.env = (false, eval e X.env) :: starEach es X.env := by rfl) (hpl : (backTo pos (starEach es X.env)).any (·.1) = false := by rfl) :
    PE X (.Call (.Name x q) (e :: es) [] pos) (tCallS (sp p) E t) := by
  refine ⟨fun pins s σ H Q I h => ?_⟩
  refine wpAny_Call_Name_kw (ld_glob I hg hm ?_ hdb)
  refine PySem.W.callWith_K (h₀ := X.base) I.ok.mod.kin hk (thn (ha.run pos pins s σ H _ I h) fun us s1 ⟨vs, H1, I1, r, q⟩ => ⟨I1.kIn, ?_⟩) he hpl
  exact run_fnP F hr hot hp hb (hx σ) I1 r q
end
/-- isinstance(e, c), e the exception p -/
theorem call_isP {X : Cx} {p : Addr × Obj} (hp : p ∈ X.pn) (hf : ∃ vs, p.2.data = .fields vs) : CallR X (.builtin "isinstance") (DL.rIsX X.K p.1 p.2.cls p.2.dict) := by
  intro pins s σ H xs us Q I r h
  obtain ⟨D, C, b, hc, hd, hD, rfl, e, q⟩ := h
  cases r with
  | cons rx rr =>
    cases rr with
    | cons rt rr =>
      cases rr
      cases rx
      cases rt
      obtain ⟨hget, _⟩ := I.pin p (List.mem_append.mpr (.inl hp))
      obtain ⟨a, oe⟩ := p
      obtain ⟨vs, hv⟩ := hf
      have J : PySem.W.InstAt s.heap a oe D none := by
        obtain ⟨oc, od, oda, osl⟩ := oe
        dsimp only at hc hd hv
        subst hc hd hv
        exact ⟨hget, rfl, rfl, trivial⟩
      exact PySem.W.kia_one (PySem.W.handS_kitx_exc hD.hg hD.hk hD.hs hD.hd hD.ha hD.hn hD.ht hD.hm) I.kIn J e (fun z => nomatch z) fun tk => ⟨.bl b, H, I.kept (t' := tk) fun _ _ z => z, rfl, q⟩
end L2
namespace L2
open PySem PySem.Spec PyProof.Rows L2H
section
variable {X : Cx} {k : Nat} {f : Addr} {fd : FuncData} {ps : List Str} {sp : Addr → Value → Option Addr → Sp} {x : Str} {q pos : Pos} {e : Expr} {es : List Expr} {t : TA} {a : Addr} {oe : Obj} {cls : Value} {d : Option Addr} {pn : List (Addr × Obj)}
/-- f(e), e the exception that the suite holds; f lets nothing out -/
theorem pe_callPS (F : FnP X.prog X.w X.K X.mg X.base (L2N.CX X.prog X.w) k f fd ps fun p => sp p.1 p.2.cls p.2.dict) (hr : RoomH k (X.suite a ((a, oe) :: pn)).A) (hz : L2N.Zn cls d oe) (hf : ∃ vs, oe.data = .fields vs) (hg : Gl (X.suite a ((a, oe) :: pn)) x) (hm : X.mg x = some (.ref f)) (hk : PySem.W.keepIn X.K (.ref f) = true) (hb : Binds X.K fd ps [])
    (ha : PA (X.suite a ((a, oe) :: pn)) (e :: es) t) (hdb : (x == ("__debug__" : Str)) = false := by decide) (he : starEach (e :: es) X.env = (false, eval e X.env) :: starEach es X.env := by rfl) (hpl : (backTo pos (starEach es X.env)).any (·.1) = false := by rfl) :
    PE (X.suite a ((a, oe) :: pn)) (.Call (.Name x q) (e :: es) [] pos) (tCallS (sp a cls d) (fun _ => E0) t) := by
  obtain ⟨rfl, rfl, hctx⟩ := hz
  obtain ⟨vs, hv⟩ := hf
  exact pe_callP (X := X.suite a ((a, oe) :: pn)) (p := (a, oe)) F hr ⟨rfl, vs, hv, hctx vs hv⟩ List.mem_cons_self hg hm hk hb (fun σ pins H s e s' I h => passN pins σ H s e s' I h) ha hdb he hpl
end
end L2
namespace DL
open PySem PySem.Spec PyProof.Rows L2 L2H
def spX (K : PySem.W.Frag) (T : List NdefX.NTab) (W : Addr → Addr → Wd) (a : Addr) (cls : Value) (d : Option Addr) : Sp := fun vs H Q E => ∃ D, cls = .ref D ∧ d = none ∧ spW K T (W a D) vs H Q E
section
variable {P : Program} {w : World} {K : PySem.W.Frag} {mg : Str → Option Value} {base : Heap} {T : List NdefX.NTab}
theorem fn_okP {x qual : Str} {st : Stmt} {f : Addr} {fd : FuncData} {N ps : List Str} {k : Nat} {W : Addr → Addr → Wd} (F : Fun K x qual st f fd) (S : FnScope N ps (defScope st)) (len : ∀ a D ρ M Q X, W a D ρ M Q X → ρ.length = ps.length) (hN : ps.length ≤ N.length)
    (hbody : ∀ (cdv : Value) (A : Around) (outer : List Env) (s : Shared) (H : Hp) (E : XK) (p : Addr × Obj), Hot1 (A.deeper (envOfC qual (defScope st) s.heap.objs.size f cdv)) p → RoomH k (A.deeper (envOfC qual (defScope st) s.heap.objs.size f cdv)) →
      ∃ t, PSs (cxH (L2N.CX P w) P w K mg base N qual (defScope st) f cdv A outer s H E p) (defBody st) t ∧
        ∀ D ρ M Q X, p.2.cls = .ref D → p.2.dict = none → W p.1 D ρ M Q X → EX ⟨K, T, fun _ => E⟩ t (ρ ++ unS (N.length - ρ.length)) M { nx := fun _ M' => Q (.d .none) M', rt := Q, xp := fun C _ M' => X C M' }) :
    FnP P w K mg base (L2N.CX P w) (k + 1) f fd ps fun p => spX K T W p.1 p.2.cls p.2.dict := by
  obtain ⟨oc, od, kV, doc, pm, an, cdv, ct, osl, rfl, lk, hcd⟩ := F.ex
  refine fn_ofP lk hcd S (fun p vs H Q E h => ?_) (fun A outer s H vs Q E p hot hr h => ?_)
  · obtain ⟨D, _, _, S, As, ρ, M, Q0, X0, r, m, w, _⟩ := h
    rw [slrs_len r, len _ _ _ _ _ _ w]
  · obtain ⟨t, ht, ht'⟩ := hbody cdv A outer s H E p hot hr
    refine ⟨t, ht, ?_⟩
    obtain ⟨D, hc, hd, S, As, ρ, M, Q0, X0, r, m, w, kq, kx⟩ := h
    have hl := len _ _ _ _ _ _ w
    refine ht' D ρ M _ _ hc hd w S As _ H (re_start r (by rw [hl]; exact hN)) m _ (fun ρ' M' As' σ' H' q g e m' => ?_) (fun s M' As' v H' q g m' r => ?_) (fun _ _ _ _ _ q => q.elim) (fun _ _ _ _ _ q => q.elim) (fun C ρ' M' As' σ' H' q g e m' => ?_)
    · exact kq _ _ q As' .non H' g m' .non
    · exact kq _ _ q As' v H' g m' r
    · exact kx _ _ q As' H' g m'
end
section
variable {c : Cn} {S : Addr → Bool} {As As1 : Ads} {H H1 : Hp} {M M1 : List MO} {ρ : List Sl} {σ : L2.St} {P P' : Po} {ta tb te : TE} {s : Sl} {v w : V} {Q : QS} {X : XP}
theorem ev_callP {W : Addr → Addr → Wd} {t : TA} {a D : Addr} (h : EA c t ρ M (fun ss M1 => (∀ s ∈ ss, notM s) ∧ W a D ss [] (fun s M' => Q (shS M1.length s) (M1 ++ M')) X0) X) : EV c (tCallS (spX c.K c.T W a (.ref D) none) (fun _ => E0) t) ρ M Q X := fun S As σ H e m R k kx =>
  h S As σ H e m _ (fun ss M1 As1 vs H1 ⟨hn, hw⟩ g1 m1 r1 => by
    refine ⟨D, rfl, rfl, hidS S As1, [], ss, [], _, _, slrs_in (c := c) r1 hn, rm_in m1, hw, fun s M' q As' v H' g m' r => ?_, fun C M' q As' H' g m' => q.elim⟩
    obtain ⟨g2, m2, r2⟩ := go_out m1 g m'
    exact k _ _ _ v H' q (g1.trans g2) m2 (r2 r)) kx
theorem dv_isP {a D C : Addr} {i : Nat} {b : Bool} {cls : Value} {d : Option Addr} (hc : cls = .ref D) (hd : d = none) (hx : ρ[i]? = some (.v (.ref a))) (hD : ExcC c.K D) (hk : PySem.W.kitOne c.K (.ref D) (.ref C) = some b) : Dv c (tCB (rIsX c.K a cls d) (tCons (tVar i) (tCons (tC (.ref C)) tNil))) ρ M (.bool b) := by
  subst hc; subst hd
  exact dv_isX hx hD hk
end
end DL

set_option Elab.async false
set_option linter.all false
set_option autoImplicit false
set_option maxRecDepth 100000
set_option maxHeartbeats 4000000
/-! own lists of defs and the call of one of them; dict displays; for over a written tuple of own objects; d.get(k); text.split; a def that is handed the exception. -/
namespace L2
open PySem PySem.Spec PyProof.Rows L2H
theorem hotC_p {CX : CXT} {P : Program} {w : World} {K : PySem.W.Frag} {mg : Str → Option Value} {base : Heap} {N : List Str} {qual : Str} {scope : Scope} {f : Addr} {cd : Value} {A : Around} {outer : List Env} {s : Shared} {H : Hp} {E : XK} {p : Addr × Obj}
    (hot : Hot1 (A.deeper (envOfC qual scope s.heap.objs.size f cd)) p) : HotC (cxH CX P w K mg base N qual scope f cd A outer s H E p) := ⟨p, hot, List.mem_singleton.mpr rfl⟩
theorem hot_fields {A : Around} {p : Addr × Obj} (hot : Hot1 A p) : ∃ vs, p.2.data = .fields vs := by
  obtain ⟨_, vs, h, _⟩ := hot
  exact ⟨vs, h⟩
end L2
namespace DL
open PySem PySem.Spec PyProof.Rows L2 L2H
section
variable {c : Cn} {S : Addr → Bool} {As As1 As2 : Ads} {H H1 : Hp} {M M1 M2 : List MO} {ρ : List Sl} {σ : L2.St} {P P' : Po} {ta tb tc te ti : TE} {s : Sl} {v w : V} {Q Q' : QS} {X : XP} {R : VK}
/-- a list of values that are no data -/
theorem ev_lstV {tl : TA} {vs : List V} (ht : ∀ (σ : L2.St) (H : Hp) (Q : List V → Hp → Prop), Q vs H → tl σ H Q) (hl : vs.length ≤ 1000) (q : Q (.m M.length) (M ++ [.ho (.lst vs)])) : EV c (tLst tl) ρ M Q X := fun S As σ H e m R k kx =>
  ht σ H _ ⟨Nat.le_trans hl (by decide), fun p hp => k _ _ (As ++ [p]) _ _ q (go_own m hp) (m.own hp ⟨upd_same, rfl, rfl⟩) ⟨p, by rw [← m.len]; simp, rfl⟩⟩
/-- the call of an element of such a list, in a try suite -/
theorem ev_callIxV {W : Wd} {ta : TA} {vs : List V} {i n j : Nat} {f : Addr} {L : List (Addr × Sp)} {E : L2.St → XK} (hx : ρ[n]? = some (.m j)) (hj : M[j]? = some (.ho (.lst vs))) (hi : Dv c ti ρ M (.int (i : Int))) (hv : vs[i]? = some (.ref f))
    (hL : (f, spW c.K c.T W) ∈ L) (hE : E = c.E) (h : EA c ta ρ M (fun ss M1 => (∀ s ∈ ss, notM s) ∧ W ss [] (fun s M' => Q (shS M1.length s) (M1 ++ M')) (fun C M' => X C (M1 ++ M'))) X) :
    EV c (tCallE (tOp (rIxL c.K) (tVar n) ti) L E ta) ρ M Q X := fun S As σ H e m R k kx => by
  obtain ⟨v, e1, r⟩ := e.at_ n _ hx (fun z => nomatch z)
  obtain ⟨a, ea, rfl⟩ := r
  refine ⟨_, e1, hi S As σ H e m _ (fun s M2 As2 w H2 ⟨es, e2⟩ g2 m2 r2 => ?_) KX.none⟩
  subst es; subst e2
  cases r2
  obtain ⟨b, eb, hm⟩ := m2.ex hj
  rw [g2.ix ea] at eb; cases eb
  exact ⟨a, vs, i, _, rfl, rfl, .inl (.inl hm.1), at_of rfl hv, f, _, rfl, hL, ev_callS hE h S As2 σ H2 (e.go g2) m2 R (k.go g2) (kx.go g2)⟩
/-! ### dict displays -/
inductive DPs (c : Cn) (ρ : List Sl) (M : List MO) : List (TE × TE) → List (Key × PyData) → Prop where
  | nil : DPs c ρ M [] []
  | cons {tk tv : TE} {trs : List (TE × TE)} {k : Key} {d : PyData} {kvs : List (Key × PyData)} : Dv c tk ρ M (keyD k) → Dv c tv ρ M d → DPs c ρ M trs kvs → DPs c ρ M ((tk, tv) :: trs) ((k, d) :: kvs)
theorem key_v {K : PySem.W.Frag} {H : Hp} {k : Key} {v : V} (r : Dp K H v (keyD k)) : v = kV k := by cases k <;> cases r <;> rfl
theorem dps_run {trs : List (TE × TE)} {kvs : List (Key × PyData)} (h : DPs c ρ M trs kvs) : ∀ (S : Addr → Bool) (As : Ads) (σ : L2.St) (H : Hp), RE c.K S As H σ ρ → RM c.K c.T S As H M → ∀ R : List (V × V) → Hp → Prop,
    (∀ vs As' H', Go As H As' H' → RM c.K c.T S As' H' M → DpAll c.K (hmk S As' H') vs (kvs.map (·.2)) → R ((zipK kvs vs).map fun kv => (kV kv.1, kv.2)) H') → tPairs trs σ H R := by
  induction h with
  | nil => exact fun S As σ H e m R k => k [] As H (.refl _ _) m .nil
  | cons h1 h2 h3 ih =>
    intro S As σ H e m R k
    refine h1 S As σ H e m _ (fun s1 M1 As1 v1 H1 ⟨es, em⟩ g1 m1 r1 => ?_) KX.none
    subst es; subst em
    refine h2 S As1 σ H1 (e.go g1) m1 _ (fun s2 M2 As2 v2 H2 ⟨es, em⟩ g2 m2 r2 => ?_) KX.none
    subst es; subst em
    refine ih S As2 σ H2 ((e.go g1).go g2) m2 _ (fun vs As3 H3 g3 m3 r3 => ?_)
    have hk := key_v r1
    subst hk
    have r2' : Dp c.K (hmk S As3 H3) v2 _ := dp_kp g3.kpm _ _ r2
    exact k (v2 :: vs) As3 H3 ((g1.trans g2).trans g3) m3 (.cons r2' r3)
theorem merge_nd : ∀ (more acc : List (Key × V)), ((acc ++ more).map (·.1)).Nodup → mergeK acc more = acc ++ more
  | [], acc, _ => by rw [List.append_nil]; rfl
  | p :: more, acc, h => by
    show mergeK (putK acc p.1 p.2) more = _
    have h1 : (acc.any fun kv => decide (kv.1 = p.1)) = false := by
      rw [List.any_eq_false]
      intro kv hkv
      rw [List.map_append, List.nodup_append] at h
      have := h.2.2 kv.1 (List.mem_map_of_mem hkv) p.1 (by simp)
      simpa using this
    have h2 : putK acc p.1 p.2 = acc ++ [p] := by
      unfold putK
      rw [h1]; rfl
    rw [h2, merge_nd more (acc ++ [p]) (by rw [List.append_assoc]; exact h), List.append_assoc]
    rfl
theorem zip_keys {K : PySem.W.Frag} {H : Hp} {kvs : List (Key × PyData)} {vs : List V} (h : DpAll K H vs (kvs.map (·.2))) : (zipK kvs vs).map (·.1) = kvs.map (·.1) := by
  have hl := dpAll_length h
  rw [List.length_map] at hl
  show ((kvs.map (·.1)).zip vs).map Prod.fst = _
  rw [List.map_fst_zip]
  rw [List.length_map, hl]
  exact Nat.le_refl _
/-- {k: v, ..} -/
theorem ev_disp {trs : List (TE × TE)} {kvs : List (Key × PyData)} (h : DPs c ρ (M ++ [.dd none []]) trs kvs) (hn : (kvs.map (·.1)).Nodup) (hl : kvs.length ≤ 15) (q : Q (.m M.length) (M ++ [.dd none kvs])) : EV c (tDisp trs) ρ M Q X := fun S As σ H e m R k kx => fun p hp => by
  have g1 := go_own (o := .dK []) m hp
  have m1 := m.own (o := .dK []) (mo := .dd none []) hp ⟨Nat.zero_le _, [], upd_same, .nil⟩
  have hp1 : (As ++ [p])[M.length]? = some p := by rw [← m.len]; simp
  refine dps_run h S (As ++ [p]) σ _ (e.go g1) m1 _ (fun vs As' H' g m' r => ?_)
  have hM : (M ++ [MO.dd none []])[M.length]? = some (MO.dd none []) := by simp
  obtain ⟨b, eb, hz, ws, hH, rr⟩ := m'.ex hM
  rw [g.ix hp1] at eb; cases eb
  have hH : H' p = some (.dK []) := by
    cases rr
    exact hH
  have hzl := zipK_len r
  refine ⟨hH, zipK kvs vs, rfl, by rw [hzl]; exact hl, ?_⟩
  rw [merge_nd _ [] (by rw [List.nil_append, zip_keys r]; exact hn), List.nil_append]
  have g4 := go_mut (o := .dK (zipK kvs vs)) m' (g.ix hp1) hH rfl (fun φ z => nomatch z)
  have m4 := m'.mut (mo := .dd none kvs) (o := .dK (zipK kvs vs)) (g.ix hp1) hH rfl (fun φ z => nomatch z) ⟨Nat.le_trans hl (by decide), vs, upd_same, dpAll_kp g4.kpm _ _ r⟩
  have eM : (M ++ [MO.dd none []]).set M.length (MO.dd none kvs) = M ++ [MO.dd none kvs] := by
    rw [List.set_append_right _ _ (Nat.le_refl _), Nat.sub_self]; rfl
  rw [eM] at m4
  exact k _ _ As' _ _ q ((g1.trans g).trans g4) m4 ⟨p, g.ix hp1, rfl⟩
/-- d.get(k) -/
theorem dv_dget1 {n j : Nat} {fz : Option Obj} {kvs : List (Key × PyData)} {k : Key} (hx : ρ[n]? = some (.m j)) (hj : M[j]? = some (.dd fz kvs)) (h1 : Dv c ta ρ M (keyD k)) :
    Dv c (tDGet1 (tVar n) ta) ρ M ((valP kvs k).getD .none) := fun S As σ H e m R kr _ => by
  obtain ⟨v, e1, r⟩ := e.at_ n _ hx (fun z => nomatch z)
  obtain ⟨a, ea, rfl⟩ := r
  obtain ⟨b, eb, hz, vs, hH, rr⟩ := m.ex hj
  rw [ea] at eb; cases eb
  refine ⟨.ref a, e1, a, rfl, .inl ⟨_, rd_dkO hH⟩, h1 S As σ H e m _ (fun s1 M1 As1 v1 H1 ⟨es, em⟩ g1 m1 r1 => ?_) KX.none⟩
  subst es; subst em
  obtain ⟨b, eb, hz2, vs2, hH2, rr2⟩ := m1.ex hj
  rw [g1.ix ea] at eb; cases eb
  have hk := key_v r1
  subst hk
  refine ⟨_, .inl ⟨_, k, rd_dkO hH2, rfl, rfl⟩, ?_⟩
  rcases val_zip k rr2 with ⟨e1, e2⟩ | ⟨d, v, e1, e2, rv⟩
  · rw [show valV ((kvs.map (·.1)).zip vs2) k = none from e2]
    rw [e1] at kr
    exact kr _ _ As1 _ H1 ⟨rfl, rfl⟩ g1 m1 .non
  · rw [show valV ((kvs.map (·.1)).zip vs2) k = some v from e2]
    rw [e1] at kr
    exact kr _ _ As1 _ H1 ⟨rfl, rfl⟩ g1 m1 rv
/-- for over a written tuple of anything -/
theorem ex_forS {tb' : TS} {t : TA} {j : Nat} (h : EA c t ρ M (fun ss M1 => ss.length ≤ 1000 ∧ ∃ I : Nat → List Sl → List MO → Prop, I 0 ρ M1 ∧
    (∀ i s ρ' M', ss[i]? = some s → I i ρ' M' → EX c tb' (ρ'.set j s) M' { nx := fun ρ2 M2 => ∃ ρ3, Wk ρ2 ρ3 ∧ I (i + 1) ρ3 M2, ct := fun ρ2 M2 => ∃ ρ3, Wk ρ2 ρ3 ∧ I (i + 1) ρ3 M2, bk := P.nx, rt := P.rt, xp := P.xp }) ∧
    (∀ ρ' M', I ss.length ρ' M' → P.nx ρ' M')) (fun C M' => P.xp C ρ M')) : EX c (tFor (iTup c.K (tTup t)) (gName j) tb') ρ M P := fun S As0 σ H0 e0 m0 D k1 k2 k3 k4 k5 =>
  h S As0 σ H0 e0 m0 _ (fun ss M1 As vs H ⟨hl0, I, h0, hs, hd⟩ g0 m rs => by
   have e := e0.go g0
   have hlen := slrs_len rs
   have hl : vs.length ≤ 1000 := by omega
   refine ⟨Nat.le_trans hl (by decide), fun p hp => ?_⟩
   have g1 : Go As H As (upd H p (.tup vs)) := go_new m hp
   have m1 := m.new (o := .tup vs) hp
   have rs1 := rs.go g1
   have hpA : p ∉ As := fun z => by
     obtain ⟨i, hi⟩ := List.mem_iff_getElem?.mp z
     have hlt := (List.getElem?_eq_some_iff.mp hi).1
     have hM : i < M1.length := by rw [← m.len]; exact hlt
     have := m.at_ i p _ hi (List.getElem?_eq_getElem hM)
     generalize M1[i] = mo at this
     cases mo with
     | lst ds => obtain ⟨_, vs', h1, _⟩ := this; rw [hp] at h1; cases h1
     | dd fz kv => obtain ⟨_, vs', h1, _⟩ := this; rw [hp] at h1; cases h1
     | ho o => have h1 : H p = some o := this.1; rw [hp] at h1; cases h1
     | P φ => obtain ⟨o, h1, _⟩ := this; rw [hp] at h1; cases h1
   refine ⟨p, rfl, ⟨vs, .inl (.inl upd_same)⟩, fun i n σ' H' => n = vs.length - i ∧ i ≤ vs.length ∧ ∃ As' ρ' M', I i ρ' M' ∧ Go As (upd H p (.tup vs)) As' H' ∧ RE c.K S As' H' σ' ρ' ∧ RM c.K c.T S As' H' M', ⟨_, rfl, Nat.zero_le _, As, ρ, M1, h0, .refl _ _, e.go g1, m1⟩, ?_⟩
   rintro i n σ' H' ⟨rfl, hi, As', ρ', M', hI, g', e', m'⟩
   have gg := g0.trans (g1.trans g')
   have hq : SqT c.K H' p vs := .inl (.inl ((g'.kp p _ upd_same hpA).2 rfl))
   by_cases hlt : i < vs.length
   · have hx : vs[i]? = some vs[i] := List.getElem?_eq_getElem hlt
     have hss : ss[i]? = some ss[i] := List.getElem?_eq_getElem (by omega)
     obtain ⟨u, eu, ru⟩ := slrs_get rs1 hss
     rw [hx] at eu; cases eu
     refine .inr ⟨⟨vs, _, hq, hx⟩, fun σ2 H2 => ∃ As2 ρ2 M2, I (i + 1) ρ2 M2 ∧ Go As (upd H p (.tup vs)) As2 H2 ∧ RE c.K S As2 H2 σ2 ρ2 ∧ RM c.K c.T S As2 H2 M2, fun σ2 H2 hN => ⟨vs.length - (i + 1), by omega, rfl, hlt, hN⟩, fun x H3 y => ?_⟩
     obtain ⟨e3, ey⟩ := y
     subst e3
     obtain rfl : vs[i] = x := Option.some.inj (hx.symm.trans (ey vs hq))
     have body := hs i _ ρ' M' hss hI
     have again : KE c S As' H3 (fun ρ2 M2 => ∃ ρ3, Wk ρ2 ρ3 ∧ I (i + 1) ρ3 M2) (fun σ2 H2 => ∃ As2 ρ2 M2, I (i + 1) ρ2 M2 ∧ Go As (upd H p (.tup vs)) As2 H2 ∧ RE c.K S As2 H2 σ2 ρ2 ∧ RM c.K c.T S As2 H2 M2) := fun ρ2 M2 As2 σ2 H2 ⟨ρ3, w, hI2⟩ g2 e2 m2 =>
       ⟨As2, ρ3, M2, hI2, g'.trans g2, e2.wk w, m2⟩
     exact body S As' _ H3 (e'.set j (ru.go g')) m' _ again (k2.go gg) (k1.go gg) again (k5.go gg)
   · have ei : i = vs.length := by omega
     subst ei
     exact .inl ⟨⟨vs, hq, Nat.le_refl _⟩, (k1.go gg).here (hd ρ' M' (hlen ▸ hI)) e' m'⟩) (k5.at_ e0)
/-! ### text.split(text) -/
theorem dl_split {a b : Str} (ho : Dv c ta ρ M (.str a)) (he : Dv c tb ρ M (.str b)) (hb : (b.length == 0) = false) (hz : a.length + 2 ≤ sizeLine) (hn : (Txt.split a b).length ≤ 1000) :
    Dl c (tM1 (fun x xs H Q => ∃ a b, x = .str a ∧ xs = [.str b] ∧ (b.length == 0) = false ∧ a.length + 2 ≤ sizeLine ∧ rNewStrs (Txt.split a b) H Q) ta tb) ρ M ((Txt.split a b).map .str) := fun S As σ H e m R k _ =>
  ho S As σ H e m _ (fun s M1 As1 v H1 ⟨e1, e2⟩ g1 m1 r1 => by
    subst e1; subst e2
    cases r1
    refine ⟨⟨_, rfl⟩, he S As1 σ H1 (e.go g1) m1 _ (fun s M2 As2 v H2 ⟨e1, e2⟩ g2 m2 r2 => ?_) KX.none⟩
    subst e1; subst e2
    cases r2
    exact ⟨a, b, rfl, rfl, hb, hz, fun p hp => own_new m2 hp (by rw [List.length_map]; exact Nat.le_trans hn (by decide)) (dp_strs_of _) (k.go (g1.trans g2)) ⟨rfl, rfl⟩⟩) KX.none
end
end DL

set_option Elab.async false
set_option linter.all false
set_option autoImplicit false
set_option maxRecDepth 100000
set_option maxHeartbeats 4000000
/-! instances of a text's class with two attributes (data, an own list): made, read, their methods, len, ==. -/
namespace L2
open PySem PySem.Spec PyProof.Rows
section
variable {X : Cx} {CX : CXT} {k : Nat} {f C : Addr} {fd : FuncData} {ps : List Str} {sp : Sp} {x m : Str} {p pos apos : Pos} {e o : Expr} {es : List Expr} {ta : TE} {t : TA}
/-- o.m(..) in a try suite -/
def tMethT (C : Addr) (m : Str) (sp : Sp) (E : St → XK) (ta : TE) (t : TA) : TE := fun σ H Q => ta σ H fun x H1 => ∃ a dx fs, x = .ref a ∧ H1 a = some (.ins C dx fs) ∧ fs.lookup m = none ∧ t σ H1 fun vs H2 => sp (x :: vs) H2 Q (E σ)
theorem pe_methT {E : St → XK} {pl : Sem Bool} (he : PE X o ta) (c : Cls X.K C) (hm : Meth X.K C m f) (F : FnOk X.prog X.w X.K X.mg X.base CX k f fd ps sp) (hr : Room k X.A) (hb : Binds X.K fd ps []) (hx : ∀ σ, PassesAt CX X σ (E σ)) (ha : PA X (e :: es) t)
    (hst : starEach (e :: es) X.env = (false, eval e X.env) :: starEach es X.env := by rfl) (hpl : (backTo pos (starEach es X.env)).any (·.1) = false := by rfl)
    (ht : eval (.Call (.Attribute o m apos) (e :: es) [] pos) X.env = (do
      let ov ← eval o X.env
      standAt apos.atName
      let (f, first) ← holding [ov] (getMethod ov m pl)
      callWith pos f first (backTo pos (starEach (e :: es) X.env)) (backToKw pos (keywordEach [] X.env))) := by rfl) :
    PE X (.Call (.Attribute o m apos) (e :: es) [] pos) (tMethT C m sp E ta t) := by
  refine ⟨fun pins s σ H Q I h => ?_⟩
  refine PySem.W.methodCall_KW (pl := pl) (thn (he.run pins s σ H _ I h) fun u s1 ⟨x, H1, I1, rx, a, dx, fs, ex, ea, l, q⟩ => ?_) ht
  subst ex
  obtain rfl : u = Value.ref a := rx
  refine getmeth_ok I1 ea c hm l ?_
  refine PySem.W.callWith_K (first := [.ref a]) (h₀ := X.base) I.ok.mod.kin hm.kp (thn (ha.run pos pins s1 σ H1 _ I1 q) fun us s2 ⟨vs, H2, I2, r, q2⟩ => ⟨I2.kIn, ?_⟩) hst hpl
  exact run_fnS (us := .ref a :: us) (vs := .ref a :: vs) F hr hb (hx σ) I2 (.cons rfl r) q2
/-- o.m() -/
theorem pe_methT0 {E : St → XK} {pl : Sem Bool} (he : PE X o ta) (c : Cls X.K C) (hm : Meth X.K C m f) (F : FnOk X.prog X.w X.K X.mg X.base CX k f fd ps sp) (hr : Room k X.A) (hb : Binds X.K fd ps []) (hx : ∀ σ, PassesAt CX X σ (E σ))
    (ht : eval (.Call (.Attribute o m apos) [] [] pos) X.env = (do
      let ov ← eval o X.env
      standAt apos.atName
      let (f, first) ← holding [ov] (getMethod ov m pl)
      callWith pos f first (backTo pos (starEach [] X.env)) (backToKw pos (keywordEach [] X.env))) := by rfl) :
    PE X (.Call (.Attribute o m apos) [] [] pos) (tMethT C m sp E ta tNil) := by
  refine ⟨fun pins s σ H Q I h => ?_⟩
  refine PySem.W.methodCall_KW (pl := pl) (thn (he.run pins s σ H _ I h) fun u s1 ⟨x, H1, I1, rx, a, dx, fs, ex, ea, l, q⟩ => ?_) ht
  subst ex
  obtain rfl : u = Value.ref a := rx
  refine getmeth_ok I1 ea c hm l ?_
  exact PySem.W.callWith_K0 (first := [.ref a]) I1.kIn hm.kp (run_fnS (us := [.ref a]) (vs := [.ref a]) F hr hb (hx σ) I1 (.cons rfl .nil) q)
/-- a def runs somewhere below -/
theorem run_fnA {E : XK} {A : Around} {pins : List (Addr × Obj)} {σ : St} {H : Hp} {s : Shared} {Q : VK} {us : List Value} {vs : List V} (sb : Sub X k A) (F : FnOk X.prog X.w X.K X.mg X.base CX k f fd ps sp) (hb : Binds X.K fd ps []) (hx : Passes CX X E)
    (I : Inv X pins σ H s) (r : Vals vs us) (h : sp vs H Q E) : wpAny (model X.prog X.w) A (call (.ref f) us) (EP X pins σ Q) X.xe s := by
  have e0 : Env0 X.prog X.w X.K X.mg X.base A X.stack s H := by
    have e := I.env0
    exact ⟨by rw [sb.fr]; exact e.frames, e.mod, e.bs, e.bsz, e.funs, e.frf, e.hok, e.bare⟩
  have hl : us.length = ps.length := by rw [← r.length]; exact F.len _ _ _ _ h
  have b := hb s us I.kIn (by rw [List.append_nil]; exact hl)
  rw [List.append_nil] at b
  refine wpAny_call (codeAny_mono (F.run A X.stack s H ⟨us, []⟩ us vs Q E sb.room e0 b r h) fun r s' hq => ?_)
  cases r with
  | error e => exact hx pins σ H s e s' I hq
  | ok fl =>
    cases fl with
    | ret u => exact I.after hq
    | next => exact False.elim hq
    | brk => exact False.elim hq
    | cont => exact False.elim hq
/-- len(o) by the class's own __len__ -/
def rLenO (C : Addr) (sp : Sp) : List V → Hp → VK → Prop := fun xs H Q => ∃ a dx fs, xs = [.ref a] ∧ H a = some (.ins C dx fs) ∧ sp [.ref a] H (fun v H2 => ∃ n : Int, v = .int n ∧ 0 ≤ n ∧ n < 2 ^ 63 ∧ Q (.int n) H2) E0
theorem call_lenO (hm : Meth X.K C "__len__" f) (F : FnOk X.prog X.w X.K X.mg X.base CX k f fd ps sp) (hr : Room (k + 1) X.A) (hb : Binds X.K fd ps []) (hx : Passes CX X E0) : CallR X (.builtin "len") (rLenO C sp) := by
  intro pins s σ H xs us Q I r h
  obtain ⟨a, dx, fs, rfl, ha, q⟩ := h
  obtain ⟨u, rfl, ru⟩ := vals1 r
  obtain rfl : u = Value.ref a := ru
  obtain ⟨mA, J, _⟩ := ins_get I.hok ha
  obtain ⟨od, J, _⟩ := J.look
  obtain ⟨m, hF⟩ := I.fr
  have sb : Sub X (k + 1) X.A := ⟨hr, rfl⟩
  refine PySem.W.len_K hF I.ok.mod.kin J hm.at_ hm.fn (wpAny_mono (run_fnA (vs := [.ref a]) (us := [.ref a]) sb.in1 F hb hx I (.cons rfl .nil) q) (fun v s' hv => ?_) fun _ _ x => x)
  obtain ⟨z, H', I', rz, n, ez, h0, h1, q⟩ := hv
  subst ez
  obtain ⟨t, rfl⟩ := (show ∃ t, v = Value.int n t from rz)
  exact ⟨⟨h0, h1⟩, .int n, H', I'.tok _, ⟨_, rfl⟩, q⟩
/-- == by the class's own __eq__ -/
def rEqO (K : PySem.W.Frag) (C : Addr) (sp : Sp) : R2 := fun x y H Q => ∃ a dx fs b, x = .ref a ∧ y = .ref b ∧ H a = some (.ins C dx fs) ∧ ((∃ dy gs, H b = some (.ins C dy gs)) ∨ ∃ ys, SqT K H b ys) ∧ sp [x, y] H (fun v H2 => ∃ r, v = .bl r ∧ Q (.bl r) H2) E0
theorem op_eqO (hm : Meth X.K C "__eq__" f) (hn : PySem.W.subIn X.K (.type "tuple") (.ref C) = some false) (F : FnOk X.prog X.w X.K X.mg X.base CX k f fd ps sp) (hr : Room k X.A) (hb : Binds X.K fd ps []) (hx : Passes CX X E0) : OpR X (compareOp .Eq) (rEqO X.K C sp) := by
  intro pins s σ H x y u v Q I rx ry h
  obtain ⟨a, dx, fs, b, rfl, rfl, ha, hy, q⟩ := h
  obtain rfl : u = Value.ref a := rx
  obtain rfl : v = Value.ref b := ry
  obtain ⟨mA, J, _⟩ := ins_get I.hok ha
  obtain ⟨od, J, _⟩ := J.look
  obtain ⟨m, hF⟩ := I.fr
  show wpAny (model X.prog X.w) X.A (richCompare .Eq (.ref a) (.ref b)) (EP X pins σ Q) X.xe s
  have fin : wpAny (model X.prog X.w) X.A (call (.ref f) [.ref a, .ref b]) (PySem.W.CmpBack (EP X pins σ Q)) X.xe s :=
    wpAny_mono (run_fnA (k := k) (vs := [.ref a, .ref b]) (us := [.ref a, .ref b]) ⟨hr, rfl⟩ F hb hx I (.cons rfl (.cons rfl .nil)) q) (fun v s' hv => by
      obtain ⟨z, H', I', rz, r, ez, q⟩ := hv
      subst ez
      obtain rfl : v = Value.bool r := rz
      exact ⟨.bl r, H', I', rfl, q⟩) fun _ _ x => x
  rcases hy with ⟨dy, gs, hb'⟩ | ⟨ys, hT⟩
  · obtain ⟨mB, J', _⟩ := ins_get I.hok hb'
    obtain ⟨od', J', _⟩ := J'.look
    exact PySem.W.cmp_K (op := .Eq) (tb := .ref C) hr.units0 hF I.ok.mod.kin J J'.type (by simp [PySem.W.notFirst]) hm.at_ hm.fn fin
  · obtain ⟨its, rv, ht, _⟩ := I.tuple hT
    obtain ⟨ob, ho, hc, _⟩ := ht
    have L : PySem.W.Looks (model X.prog X.w) s.heap (typeOf (.ref b)) (.type "tuple") := hc ▸ ((PySem.W.Looks.ld ho).andThen .now)
    exact PySem.W.cmp_K (op := .Eq) (tb := .type "tuple") hr.units0 hF I.ok.mod.kin J L (by unfold PySem.W.notFirst; rw [hn]; simp) hm.at_ hm.fn fin
end
end L2

namespace DL
open PySem PySem.Spec PyProof.Rows L2
section
variable {c : Cn} {S : Addr → Bool} {As As1 As2 : Ads} {H H1 : Hp} {M M1 M2 : List MO} {ρ : List Sl} {σ : L2.St} {P P' : Po} {ta tb tc te ti : TE} {s : Sl} {v w : V} {Q Q' : QS} {X : XP} {R : VK}
/-! ### own objects seen as data: for callees that only read -/
def VisP (M : List MO) : PyData ⊕ Nat → PyData ⊕ Nat → Prop
  | .inl x, y => y = .inl x
  | .inr j, y => ∃ ds, M[j]? = some (.lst ds) ∧ y = .inl (.list ds)
inductive Vis (M : List MO) : Sl → Sl → Prop where
  | d (x : PyData) : Vis M (.d x) (.d x)
  | ob {C : Addr} {n1 n2 : Str} {a b a' b' : PyData ⊕ Nat} (h1 : VisP M a a') (h2 : VisP M b b') : Vis M (.ob C n1 n2 a b) (.ob C n1 n2 a' b')
theorem visP_slp (m : RM c.K c.T S As H M) {a a' : PyData ⊕ Nat} (h : VisP M a a') (r : SlP c.K S As H v a) : SlP c.K S [] H v a' := by
  have kp : Kp (hmk S As H) (hmk S [] H) := kp_sub (fun a ha => absurd ha (by simp))
  cases a with
  | inl x =>
    obtain rfl : a' = .inl x := h
    exact dp_kp kp x v r
  | inr j =>
    obtain ⟨ds, hj, rfl⟩ := h
    obtain ⟨a, ea, rfl⟩ := r
    obtain ⟨b, eb, _, vs, eH, rr⟩ := m.ex hj
    rw [ea] at eb; cases eb
    exact Dp.lst (.inl (.inl (hmk_of (m.sS a (List.mem_of_getElem? ea)) (by simp) eH))) (dpAll_kp kp _ _ rr)
theorem vis_slr {s s' : Sl} (m : RM c.K c.T S As H M) (h : Vis M s s') (r : SlR c.K S As H v s) : SlR c.K S [] H v s' := by
  have kp : Kp (hmk S As H) (hmk S [] H) := kp_sub (fun a ha => absurd ha (by simp))
  cases h with
  | d x => exact dp_kp kp x v r
  | ob h1 h2 =>
    obtain ⟨p, dx, v1, v2, e, h3, h4, h5⟩ := r
    exact ⟨p, dx, v1, v2, e, kp _ _ h3 rfl, visP_slp m h1 h4, visP_slp m h2 h5⟩
def flatD : PyData → Bool
  | .int _ => true
  | .bool _ => true
  | .none => true
  | _ => false
theorem rm_vis (m : RM c.K c.T S As H M) : RM c.K c.T S [] H [] := ⟨rfl, List.nodup_nil, fun a ha => absurd ha (by simp), m.sd, fun i a mo e _ => (by simp at e), m.tb, m.st⟩
/-- the callee has changed nothing of ours -/
theorem rm_back {H' : Hp} (m : RM c.K c.T S As H M) (g : Go [] H [] H') (m' : RM c.K c.T S [] H' []) : Go As H As H' ∧ RM c.K c.T S As H' M := by
  have gF : Go As H As H' := ⟨⟨[], by simp⟩, fun a o h na => ⟨na, (g.kp a o h (by simp)).2⟩, g.dm⟩
  refine ⟨gF, m.len, m.nd, m.sS, m'.sd, fun i a mo e1 e2 => ?_, m'.tb, m'.st⟩
  have h0 := m.at_ i a mo e1 e2
  cases mo with
  | lst ds =>
    obtain ⟨z, vs, e, q⟩ := h0
    exact ⟨z, vs, (g.kp a _ e (by simp)).2 rfl, dpAll_kp gF.kpm _ _ q⟩
  | dd fz kv =>
    obtain ⟨z, vs, e, q⟩ := h0
    exact ⟨z, vs, (g.kp a _ e (by simp)).2 (dkO_t _ _), dpAll_kp gF.kpm _ _ q⟩
  | ho o => exact ⟨(g.kp a _ h0.1 (by simp)).2 h0.2.1, h0.2⟩
  | P φ =>
    obtain ⟨o', eo, t, q⟩ := h0
    exact ⟨o', (g.kp a _ eo (by simp)).2 t, t, q⟩
/-- a call of a def that only reads and answers flat data -/
theorem ro_call {W : Wd} {vs : List V} {ss : List Sl} {d : PyData} {E : XK} (m : RM c.K c.T S As H M) (rs : SlRs c S [] H vs ss) (hf : flatD d = true) (hW : ∀ Q' : QS, Q' (.d d) [] → W ss [] Q' X0)
    (k : ∀ v H', Go As H As H' → RM c.K c.T S As H' M → SlR c.K S As H' v (.d d) → R v H') : spW c.K c.T W vs H R E := by
  refine ⟨S, [], ss, [], fun s M' => s = .d d ∧ M' = [], X0, rs, rm_vis m, hW _ ⟨rfl, rfl⟩, fun s M' q As' v H' g m' r => ?_, fun C M' q => q.elim⟩
  obtain ⟨rfl, rfl⟩ := q
  have e : As' = [] := List.length_eq_zero_iff.mp m'.len
  subst e
  obtain ⟨g2, m2⟩ := rm_back m g m'
  refine k v H' g2 m2 ?_
  cases d with
  | int i => cases r; exact .int i
  | bool b => cases r; exact .bl b
  | none => cases r; exact .non
  | _ => cases hf
/-! ### attributes -/
/-- the value is the own list j -/
def Dol (c : Cn) (t : TE) (ρ : List Sl) (M : List MO) (j : Nat) : Prop := EV c t ρ M (fun s M' => s = .m j ∧ M' = M) X0
theorem ev_dm {j : Nat} (h : Dol c te ρ M j) (q : Q (.m j) M) : EV c te ρ M Q X := EV.imp h (fun s M' ⟨e, e'⟩ => by subst e; subst e'; exact q) fun _ _ z => z.elim
theorem dm_var {i j : Nat} (h : ρ[i]? = some (.m j)) : Dol c (tVar i) ρ M j := ev_var h (fun z => nomatch z) ⟨rfl, rfl⟩
theorem lk1 {n1 n2 : Str} {v1 v2 : V} : ([(n1, v1), (n2, v2)] : List (Str × V)).lookup n1 = some v1 := by simp [List.lookup]
theorem lk2 {n1 n2 : Str} {v1 v2 : V} (h : (n2 == n1) = false) : ([(n1, v1), (n2, v2)] : List (Str × V)).lookup n2 = some v2 := by simp [List.lookup, h]
theorem lk0 {n1 n2 m : Str} {v1 v2 : V} (h1 : (m == n1) = false) (h2 : (m == n2) = false) : ([(n1, v1), (n2, v2)] : List (Str × V)).lookup m = none := by simp [List.lookup, h1, h2]
theorem dv_fld1 {i : Nat} {C : Addr} {n1 n2 : Str} {x : PyData} {b : PyData ⊕ Nat} (h : ρ[i]? = some (.ob C n1 n2 (.inl x) b)) (cl : Cls c.K C) (na : NoAttr c.K C n1) : Dv c (tFld c.K (tVar i) n1) ρ M x := fun S As σ H e m R k kx => by
  obtain ⟨v, e1, p, dx, v1, v2, rfl, h1, h2, h3⟩ := e.at_ i _ h (fun z => nomatch z)
  exact ⟨_, e1, p, C, dx, _, v1, rfl, (hmk_some h1).2.2, cl, na, lk1, k.here ⟨rfl, rfl⟩ m h2⟩
theorem dv_fld2 {i : Nat} {C : Addr} {n1 n2 : Str} {x : PyData} {a : PyData ⊕ Nat} (h : ρ[i]? = some (.ob C n1 n2 a (.inl x))) (cl : Cls c.K C) (na : NoAttr c.K C n2) (hn : (n2 == n1) = false := by decide +kernel) : Dv c (tFld c.K (tVar i) n2) ρ M x := fun S As σ H e m R k kx => by
  obtain ⟨v, e1, p, dx, v1, v2, rfl, h1, h2, h3⟩ := e.at_ i _ h (fun z => nomatch z)
  exact ⟨_, e1, p, C, dx, _, v2, rfl, (hmk_some h1).2.2, cl, na, lk2 hn, k.here ⟨rfl, rfl⟩ m h3⟩
theorem dm_fld2 {i j : Nat} {C : Addr} {n1 n2 : Str} {a : PyData ⊕ Nat} (h : ρ[i]? = some (.ob C n1 n2 a (.inr j))) (cl : Cls c.K C) (na : NoAttr c.K C n2) (hn : (n2 == n1) = false := by decide +kernel) : Dol c (tFld c.K (tVar i) n2) ρ M j := fun S As σ H e m R k kx => by
  obtain ⟨v, e1, p, dx, v1, v2, rfl, h1, h2, h3⟩ := e.at_ i _ h (fun z => nomatch z)
  exact ⟨_, e1, p, C, dx, _, v2, rfl, (hmk_some h1).2.2, cl, na, lk2 hn, k.here ⟨rfl, rfl⟩ m h3⟩
/-! ### own lists by any expression -/
theorem dv_ixE {j : Nat} {ds : List PyData} {i : Int} {d : PyData} (ha : Dol c ta ρ M j) (hj : M[j]? = some (.lst ds)) (hb : Dv c tb ρ M (.int i)) (h : atD ds i = some d) : Dv c (tOp (rIxL c.K) ta tb) ρ M d :=
  ev_op (ev_dm ha (ev_dv hb fun S As H v w hv hw m R k => by
    cases hw
    obtain ⟨a, ea, rfl⟩ := hv
    obtain ⟨a', ea', hl, vs, e, r⟩ := m.ex hj
    rw [ea] at ea'; cases ea'
    obtain ⟨u, e', r'⟩ := atD_v r h
    exact ⟨a, vs, i, u, rfl, rfl, .inl (.inl e), e', k.here ⟨rfl, rfl⟩ m r'⟩))
theorem dv_lenE {j : Nat} {ds : List PyData} (ha : Dol c ta ρ M j) (hj : M[j]? = some (.lst ds)) : Dv c (tCB (fun xs H Q => ∃ p ys, xs = [.ref p] ∧ (SqL c.K H p ys ∨ SqT c.K H p ys) ∧ Q (.int ys.length) H) (tCons ta tNil)) ρ M (.int ds.length) :=
  ev_cb (ea_cons (ev_dm ha (ea_nil fun S As H vs hv m R k => by
    obtain ⟨v, rfl, r⟩ := slrs1 hv
    obtain ⟨a, ea, rfl⟩ := r
    obtain ⟨b, eb, _, ws, eH, r⟩ := m.ex hj
    rw [ea] at eb; cases eb
    refine ⟨a, ws, rfl, .inl (.inl (.inl eH)), ?_⟩
    rw [dpAll_length r]
    exact k.here ⟨rfl, rfl⟩ m (.int _))))
theorem ex_appendE {j : Nat} {ds : List PyData} (ha : Dol c ta ρ M j) (hj : M[j]? = some (.lst ds))
    (h : EV c te ρ M (fun s M' => ∃ d ds', s = .d d ∧ M'[j]? = some (.lst ds') ∧ ds'.length < 100000 ∧ P.nx ρ (M'.set j (.lst (ds' ++ [d])))) (fun C M' => P.xp C ρ M')) : EX c (tDrop (tBM c.K "list" rAppend ta (tCons te tNil))) ρ M P := fun S As σ H e m D k1 k2 k3 k4 k5 =>
  ha S As σ H e m _ (fun s M1 As1 v H1 ⟨e1, e2⟩ g1 m1 r1 => by
    subst e1; subst e2
    obtain ⟨a, ea, rfl⟩ := r1
    obtain ⟨a', ea', _, vs, eH, _⟩ := m1.ex hj
    rw [ea] at ea'; cases ea'
    refine ⟨.inl ⟨rfl, vs, .inl (.inl eH)⟩, h S As1 σ H1 (e.go g1) m1 _ (fun s M' As' w H' ⟨d, ds', es, hj', hz, q⟩ g m' r => ?_) ((k5.at_ e).go g1)⟩
    subst es
    obtain ⟨b, eb, hl, ws, eH', rr⟩ := m'.ex hj'
    rw [g.ix ea] at eb; cases eb
    have hlen : ws.length = ds'.length := dpAll_length rr
    have hsz : ds'.length < sizeLine := Nat.lt_of_lt_of_le hz (by decide)
    refine ⟨a, ws, w, rfl, rfl, eH', by rw [hlen]; exact hsz, ?_⟩
    have g2 := go_mut (o := .lst (ws ++ [w])) m' (g.ix ea) eH' rfl (fun φ z => nomatch z)
    refine k1 _ _ As' _ _ q ((g1.trans g).trans g2) (((e.go g1).go g).go g2) (m'.mut (g.ix ea) eH' rfl (fun φ z => nomatch z) ⟨?_, ws ++ [w], upd_same, dpAll_kp g2.kpm _ _ (dpAll_append rr (.cons r .nil))⟩)
    rw [List.length_append]
    exact hsz) KX.none
theorem dpAll_dropLast {K : PySem.W.Frag} {H : Hp} {vs : List V} {ds : List PyData} (h : DpAll K H vs ds) : DpAll K H vs.dropLast ds.dropLast := by
  rw [List.dropLast_eq_take, List.dropLast_eq_take, dpAll_length h]
  exact dpAll_take _ h
/-- xs.pop() as a statement -/
theorem ex_popE {j : Nat} {ds : List PyData} (ha : Dol c ta ρ M j) (hj : M[j]? = some (.lst ds)) (h0 : 0 < ds.length) (q : P.nx ρ (M.set j (.lst ds.dropLast))) : EX c (tDrop (tBM0 c.K "list" rPop ta)) ρ M P := fun S As σ H e m D k1 k2 k3 k4 k5 =>
  ha S As σ H e m _ (fun s M1 As1 v H1 ⟨e1, e2⟩ g1 m1 r1 => by
    subst e1; subst e2
    obtain ⟨a, ea, rfl⟩ := r1
    obtain ⟨a', ea', hl, vs, eH, rr⟩ := m1.ex hj
    rw [ea] at ea'; cases ea'
    have hlen : vs.length = ds.length := dpAll_length rr
    have hi : vs.length - 1 < vs.length := by omega
    refine ⟨.inl ⟨rfl, vs, .inl (.inl eH)⟩, a, vs, vs[vs.length - 1], rfl, rfl, eH, List.getElem?_eq_getElem hi, ?_⟩
    have g2 := go_mut (o := .lst vs.dropLast) m1 ea eH rfl (fun φ z => nomatch z)
    exact k1 _ _ As1 _ _ q (g1.trans g2) ((e.go g1).go g2) (m1.mut ea eH rfl (fun φ z => nomatch z) ⟨by rw [List.length_dropLast]; omega, vs.dropLast, upd_same, dpAll_kp g2.kpm _ _ (dpAll_dropLast rr)⟩)) KX.none
/-! ### methods, len, == -/
def isOb (C : Addr) (n1 n2 : Str) : Sl → Prop := fun s => ∃ a b, s = .ob C n1 n2 a b
/-- o.m() that only reads -/
theorem dv_methR {W : Wd} {i : Nat} {C : Addr} {n1 n2 m : Str} {a b : PyData ⊕ Nat} {s' : Sl} {d : PyData} {E : XK} (h : ρ[i]? = some (.ob C n1 n2 a b)) (hv : Vis M (.ob C n1 n2 a b) s') (hf : flatD d = true) (hW : ∀ Q' : QS, Q' (.d d) [] → W [s'] [] Q' X0)
    (h1 : (m == n1) = false := by decide +kernel) (h2 : (m == n2) = false := by decide +kernel) : Dv c (tMeth C m (spW c.K c.T W) [] E (tVar i) tNil) ρ M d := fun S As σ H e mm R k kx => by
  obtain ⟨v, e1, r⟩ := e.at_ i _ h (fun z => nomatch z)
  obtain ⟨p, dx, v1, v2, rfl, q1, q2, q3⟩ := id r
  refine ⟨_, e1, p, dx, _, rfl, (hmk_some q1).2.2, lk0 h1 h2, ?_⟩
  exact ro_call mm (.cons (vis_slr mm hv r) .nil) hf hW fun v H' g m' r => k _ _ _ v H' ⟨rfl, rfl⟩ g m' r
/-- len(o) -/
theorem dv_lenO {W : Wd} {i : Nat} {C : Addr} {n1 n2 : Str} {a b : PyData ⊕ Nat} {s' : Sl} {n : Nat} (h : ρ[i]? = some (.ob C n1 n2 a b)) (hv : Vis M (.ob C n1 n2 a b) s') (hz : n ≤ 100000) (hW : ∀ Q' : QS, Q' (.d (.int (n : Int))) [] → W [s'] [] Q' X0) :
    Dv c (tCB (rLenO C (spW c.K c.T W)) (tCons (tVar i) tNil)) ρ M (.int (n : Int)) := fun S As σ H e mm R k kx => by
  obtain ⟨v, e1, r⟩ := e.at_ i _ h (fun z => nomatch z)
  obtain ⟨p, dx, v1, v2, rfl, q1, q2, q3⟩ := id r
  refine ⟨_, e1, p, dx, _, rfl, (hmk_some q1).2.2, ?_⟩
  exact ro_call mm (.cons (vis_slr mm hv r) .nil) rfl hW fun v H' g m' r => by
    cases r
    exact ⟨n, rfl, by omega, by omega, k _ _ _ _ H' ⟨rfl, rfl⟩ g m' (.int _)⟩
/-- o == p -/
theorem ev_eqO {W : Wd} {C : Addr} {n1 n2 : Str} (h : EV c ta ρ M (fun s1 M1 => EV c tb ρ M1 (fun s2 M2 => isOb C n1 n2 s1 ∧ (isOb C n1 n2 s2 ∨ ∃ ds, s2 = .d (.tuple ds)) ∧ ∃ s1' s2' r, Vis M2 s1 s1' ∧ Vis M2 s2 s2' ∧ (∀ Q' : QS, Q' (.d (.bool r)) [] → W [s1', s2'] [] Q' X0) ∧ Q (.d (.bool r)) M2) X) X) :
    EV c (tOp (rEqO c.K C (spW c.K c.T W)) ta tb) ρ M Q X :=
  ev_op (EV.imp h (fun s1 M1 h2 => EV.imp h2 (fun s2 M2 ⟨⟨a1, b1, e1⟩, o2, s1', s2', r, v1, v2, hW, q⟩ => by
    subst e1
    intro S As H v w hv hw m R k
    obtain ⟨p, dx, u1, u2, rfl, q1, q2, q3⟩ := id hv
    have hy : ∃ b, w = .ref b ∧ ((∃ dy gs, H b = some (.ins C dy gs)) ∨ ∃ ys, SqT c.K H b ys) := by
      rcases o2 with ⟨a2, b2, rfl⟩ | ⟨ds, rfl⟩
      · obtain ⟨p2, dx2, w1, w2, rfl, z1, _, _⟩ := id hw
        exact ⟨p2, rfl, .inl ⟨_, _, (hmk_some z1).2.2⟩⟩
      · obtain ⟨b, ys, rfl, z1, _⟩ := dp_tup hw
        exact ⟨b, rfl, .inr ⟨ys, hmk_sqT z1⟩⟩
    obtain ⟨b, rfl, hy⟩ := hy
    refine ⟨p, dx, _, b, rfl, rfl, (hmk_some q1).2.2, hy, ?_⟩
    exact ro_call m (.cons (vis_slr m v1 hv) (.cons (vis_slr m v2 hw) .nil)) rfl hW fun v H' g m' r => by
      cases r
      exact ⟨_, rfl, k _ _ _ _ H' q g m' (.bl _)⟩) fun _ _ z => z) fun _ _ z => z)
/-- o.m(..) in a try suite: the own list j may change -/
theorem ev_callMX {W : Wd} {t : TA} {E : L2.St → XK} (hE : E = c.E) (h : EA c t ρ M (fun ss M1 => ∃ j mo, M1[j]? = some mo ∧ (∀ s ∈ ss, okM j s) ∧ W (ss.map (inM j)) [mo] (fun s M' => ∃ mo' M2, M' = mo' :: M2 ∧ Q (outM j M1.length s) (M1.set j mo' ++ M2)) (fun C M' => ∃ mo' M2, M' = mo' :: M2 ∧ X C (M1.set j mo' ++ M2))) X) :
    EV c (fun σ H Q => t σ H fun vs H1 => spW c.K c.T W vs H1 Q (E σ)) ρ M Q X := fun S As σ H e m R k kx =>
  h S As σ H e m _ (fun ss M1 As1 vs H1 ⟨j, mo, hj, hn, hw⟩ g1 m1 r1 => by
    subst hE
    obtain ⟨b, hb, _⟩ := m1.ex hj
    refine ⟨hidB S As1 b, [b], ss.map (inM j), [mo], _, _, slrs_inM (c := c) hb r1 hn, rm_inM m1 hb hj, hw, fun s M' q As' v H' g m' r => ?_, fun C M' q As' H' g m' => ?_⟩
    · obtain ⟨mo', M2, e, q⟩ := q
      subst e
      obtain ⟨As2, g2, m2, r2⟩ := go_outM m1 hb g m'
      exact k _ _ _ v H' q (g1.trans g2) m2 (r2 r)
    · obtain ⟨mo', M2, e, q⟩ := q
      subst e
      obtain ⟨As2, g2, m2, _⟩ := go_outM m1 hb g m'
      exact kx C _ _ H' q (g1.trans g2) m2) kx
theorem ev_methT {W : Wd} {t : TA} {E : L2.St → XK} {i : Nat} {C : Addr} {n1 n2 m : Str} {a b : PyData ⊕ Nat} (hx : ρ[i]? = some (.ob C n1 n2 a b))
    (h : EV c (fun σ H Q => (tCons (tVar i) t) σ H fun vs H1 => spW c.K c.T W vs H1 Q (E σ)) ρ M Q X) (h1 : (m == n1) = false := by decide +kernel) (h2 : (m == n2) = false := by decide +kernel) : EV c (tMethT C m (spW c.K c.T W) E (tVar i) t) ρ M Q X := fun S As σ H e mm R k kx => by
  obtain ⟨v, e1, r⟩ := e.at_ i _ hx (fun z => nomatch z)
  obtain ⟨p, dx, v1, v2, rfl, q1, q2, q3⟩ := r
  obtain ⟨v', e2, hh⟩ := h S As σ H e mm R k kx
  rw [e1] at e2; cases e2
  exact ⟨_, e1, p, dx, _, rfl, (hmk_some q1).2.2, lk0 h1 h2, hh⟩
/-- .. outside of a try suite, nothing raised -/
theorem ev_methM {W : Wd} {t : TA} {E : XK} {i : Nat} {C : Addr} {n1 n2 m : Str} {a b : PyData ⊕ Nat} (hx : ρ[i]? = some (.ob C n1 n2 a b))
    (h : EV c (tCall (spW c.K c.T W) [] E (tCons (tVar i) t)) ρ M Q X) (h1 : (m == n1) = false := by decide +kernel) (h2 : (m == n2) = false := by decide +kernel) : EV c (tMeth C m (spW c.K c.T W) [] E (tVar i) t) ρ M Q X := fun S As σ H e mm R k kx => by
  obtain ⟨v, e1, r⟩ := e.at_ i _ hx (fun z => nomatch z)
  obtain ⟨p, dx, v1, v2, rfl, q1, q2, q3⟩ := r
  obtain ⟨v', e2, hh⟩ := h S As σ H e mm R k kx
  rw [e1] at e2; cases e2
  exact ⟨_, e1, p, dx, _, rfl, (hmk_some q1).2.2, lk0 h1 h2, hh⟩
/-- isinstance(o, C), o an instance of C -/
theorem dv_isO {i : Nat} {C : Addr} {n1 n2 : Str} {a b : PyData ⊕ Nat} {r : Bool} (h : ρ[i]? = some (.ob C n1 n2 a b)) (cl : Cls c.K C) (ha : PySem.W.findIn c.K (.ref C) "__class__" = some (some (.builtin "object.__class__")))
    (hn : PySem.W.specialIn c.K (.builtin "object.__class__") "__get__" = some (some (.builtin "getset_descriptor.__get__"))) (htk : PySem.W.takesIn c.K (.builtin "object.__class__") = some true)
    (hm : PySem.W.mroIn c.K C (.type "object") = some true) (hk : PySem.W.kitOne c.K (.ref C) (.ref C) = some r) : Dv c (tCB (rIsi c.K) (tCons (tVar i) (tCons (tC (.ref C)) tNil))) ρ M (.bool r) :=
  ev_cb (ea_cons (ev_var h (fun z => nomatch z) (ea_cons (ev_c (s := .v (.ref C)) (fun _ _ _ => rfl) (ea_nil fun S As H vs hv m R k => by
    obtain ⟨v, w, rfl, r1, r2⟩ := slrs2 hv
    cases r2
    obtain ⟨p, dx, v1, v2, rfl, q1, q2, q3⟩ := r1
    exact ⟨.ref p, .ref C, .ref C, .ref C, r, rfl, .own C, .base (.ins (hmk_some q1).2.2 cl ha hn htk hm), hk, k.here ⟨rfl, rfl⟩ m (.bl _)⟩)))))
/-- isinstance(x, C), x data -/
theorem dv_isD {x : PyData} {C : Addr} {r : Bool} (h : Dv c ta ρ M x) (hk : PySem.W.kitOne c.K (.type (tyD x)) (.ref C) = some r) : Dv c (tCB (rIsi c.K) (tCons ta (tCons (tC (.ref C)) tNil))) ρ M (.bool r) :=
  ev_cb (ea_cons (ev_dv h (ea_cons (ev_c (s := .v (.ref C)) (fun _ _ _ => rfl) (ea_nil fun S As H vs hv m R k => by
    obtain ⟨v, w, rfl, r1, r2⟩ := slrs2 hv
    cases r2
    exact ⟨v, .ref C, .type (tyD x), .ref C, r, rfl, .own C, dp_ty (SlR.dp r1), hk, k.here ⟨rfl, rfl⟩ m (.bl _)⟩)))))
end
end DL

set_option Elab.async false
set_option linter.all false
set_option autoImplicit false
set_option maxRecDepth 100000
set_option maxHeartbeats 4000000
/-! an instance is made: __init__ lays two attributes, data and a new own list. -/
namespace DL
open PySem PySem.Spec PyProof.Rows L2
/-- what such an __init__ promises -/
def spI (K : PySem.W.Frag) (T : List NdefX.NTab) (C : Addr) (n1 n2 : Str) (ok : PyData → PyData → Prop) (past : PyData → List PyData) : Sp := fun vs H Q E => ∃ (S : Addr → Bool) (x dx : Addr) (v1 v2 : V) (b tm : PyData), vs = [.ref x, v1, v2] ∧ H x = some (.ins C dx []) ∧ S x = true ∧
  RM K T S [] H [] ∧ Dp K (hmk S [] H) v1 b ∧ Dp K (hmk S [] H) v2 tm ∧ ok b tm ∧
  ∀ (H5 : Hp) (p : Addr) (u : V), RM K T S [p] H5 [.lst (past b)] → (∀ a o, H a = some o → a ≠ x → a ≠ p ∧ (isTbl o = false → H5 a = some o)) → (∀ a, H a ≠ none → H5 a ≠ none) →
    H5 x = some (.ins C dx [(n1, u), (n2, .ref p)]) → Dp K (hmk S [p] H5) u tm → Q .non H5
section
variable {P : Program} {w : World} {K : PySem.W.Frag} {mg : Str → Option Value} {base : Heap} {T : List NdefX.NTab}
theorem fn_init {x qual : Str} {st : Stmt} {f C : Addr} {fd : FuncData} {N ps : List Str} {k : Nat} {n1 n2 : Str} {ok : PyData → PyData → Prop} {past : PyData → List PyData} (F : Fun K x qual st f fd) (Sc : FnScope N ps (defScope st)) (hps : ps.length = 3) (hN : N.length = 3)
    (cl : Cls K C) (na1 : NoAttr K C n1) (na2 : NoAttr K C n2) (hne : n1 ≠ n2)
    (hbody : ∀ (cdv : Value) (A : Around) (outer : List Env) (s : Shared) (H : Hp) (E : XK), Room k (A.deeper (envOfC qual (defScope st) s.heap.objs.size f cdv)) →
      ∃ tA tB tv, PSs (cxOf (L2N.CX P w) P w K mg base N qual (defScope st) f cdv A outer s H E) (defBody st) (tSeq tA (tSeq tB (tSeq (sFld K (tVar 0) (tVar 2) n1) (sFld K (tVar 0) tv n2)))) ∧
        (∀ b tm a, ok b tm → EX ⟨K, T, fun _ => E⟩ tA [.v (.ref a), .d b, .d tm] [] { nx := fun ρ' M' => ρ' = [.v (.ref a), .d b, .d tm] ∧ M' = [] }) ∧
        (∀ b tm a, ok b tm → EX ⟨K, T, fun _ => E⟩ tB [.v (.ref a), .d b, .d tm] [] { nx := fun ρ' M' => ρ' = [.v (.ref a), .d b, .d tm] ∧ M' = [] }) ∧
        ∀ b tm a, ok b tm → Dl ⟨K, T, fun _ => E⟩ tv [.v (.ref a), .d b, .d tm] [] (past b)) :
    FnOk P w K mg base (L2N.CX P w) (k + 1) f fd ps (spI K T C n1 n2 ok past) := by
  refine okXN F Sc (fun vs H Q E h => ?_) (fun cdv A outer s H vs Q E hr h => ?_)
  · obtain ⟨_, _, _, _, _, _, _, rfl, _⟩ := h
    exact hps.symm
  · obtain ⟨tA, tB, tv, ht, hA, hB, hL⟩ := hbody cdv A outer s H E hr
    refine ⟨_, ht, ?_⟩
    obtain ⟨S, x, dx, v1, v2, b, tm, rfl, hx, hS, m, d1, d2, hok, q⟩ := h
    have e0 : RE K S [] H (L2.start N [.ref x, v1, v2]) [.v (.ref x), .d b, .d tm] := by
      have := re_start (c := ⟨K, T, fun _ => E⟩) (S := S) (As := []) (H := H) (N := N) (vs := [.ref x, v1, v2]) (ss := [.v (.ref x), .d b, .d tm]) (.cons rfl (.cons d1 (.cons d2 .nil))) (by rw [hN]; exact Nat.le_refl 3)
      rw [hN] at this
      exact this
    refine hA b tm x hok S [] _ H e0 m _ (fun ρ' M' As1 σ1 H1 ⟨e1, e2⟩ g1 r1 m1 => ?_) (fun _ _ _ _ _ z => z.elim) (fun _ _ _ _ _ z => z.elim) (fun _ _ _ _ _ z => z.elim) (fun _ _ _ _ _ _ z => z.elim)
    subst e1; subst e2
    have eA := List.length_eq_zero_iff.mp m1.len
    subst eA
    refine hB b tm x hok S [] _ H1 r1 m1 _ (fun ρ' M' As2 σ2 H2 ⟨e1, e2⟩ g2 r2 m2 => ?_) (fun _ _ _ _ _ z => z.elim) (fun _ _ _ _ _ z => z.elim) (fun _ _ _ _ _ z => z.elim) (fun _ _ _ _ _ _ z => z.elim)
    subst e1; subst e2
    have eA := List.length_eq_zero_iff.mp m2.len
    subst eA
    have hx2 : H2 x = some (.ins C dx []) := (g2.kp x _ ((g1.kp x _ hx (by simp)).2 rfl) (by simp)).2 rfl
    obtain ⟨va, ea, ra⟩ := r2.at_ 0 (.v (.ref x)) rfl (fun z => nomatch z)
    have ra : va = .ref x := ra
    subst ra
    obtain ⟨vb, eb, rb⟩ := r2.at_ 2 (.d tm) rfl (fun z => nomatch z)
    obtain ⟨m3, tr3⟩ := rm_foreign (c := ⟨K, T, fun _ => E⟩) (o := .ins C dx [(n1, vb)]) m2 hS hx2 rfl (fun φ z => nomatch z)
    refine ⟨vb, eb, .ref x, ea, x, C, dx, [], rfl, hx2, cl, na1, by decide, ?_⟩
    show sFld K (tVar 0) tv n2 _ σ2 (upd H2 x (.ins C dx [(n1, vb)]))
    have r3 : RE K S [] (upd H2 x (.ins C dx [(n1, vb)])) σ2 [.v (.ref x), .d b, .d tm] := ⟨r2.len, fun i s hs n => by
      obtain ⟨v, e, r⟩ := r2.at_ i s hs n
      refine ⟨v, e, ?_⟩
      match i, hs with
      | 0, hs => cases hs; exact r
      | 1, hs => cases hs; exact tr3 r
      | 2, hs => cases hs; exact tr3 r⟩
    refine hL b tm x hok S [] σ2 _ r3 m3 _ (fun s M4 As4 v H4 ⟨e1, e2⟩ g4 m4 r4 => ?_) KX.none
    subst e1; subst e2
    obtain ⟨p, ep, rfl⟩ := r4
    have eA : As4 = [p] := by
      have hl := m4.len
      match As4, hl with
      | [z], _ => simp at ep; rw [ep]
    subst eA
    have hx4 : H4 x = some (.ins C dx [(n1, vb)]) := (g4.kp x _ upd_same (by simp)).2 rfl
    have m4 : RM K T S [p] H4 [.lst (past b)] := m4
    obtain ⟨m5, tr5⟩ := rm_foreign (c := ⟨K, T, fun _ => E⟩) (o := .ins C dx [(n1, vb), (n2, .ref p)]) m4 hS hx4 rfl (fun φ z => nomatch z)
    have hput : putF n2 (.ref p) [(n1, vb)] = [(n1, vb), (n2, .ref p)] := by
      unfold putF
      rw [if_neg hne]; rfl
    refine ⟨.ref x, ea, x, C, dx, _, rfl, hx4, cl, na2, (show 1 < 1000 by decide), ?_⟩
    rw [hput]
    have nn : ∀ a, H a ≠ none → upd H2 x (.ins C dx [(n1, vb)]) a ≠ none := fun a ha => by
      by_cases z : a = x
      · rw [z, upd_same]; exact fun z => nomatch z
      · rw [upd_ne z]; exact g2.dm a (g1.dm a ha)
    refine q _ p vb m5 (fun a o ha hax => ⟨fun z => ?_, fun ht => ?_⟩) (fun a ha => ?_) upd_same (tr5 (dp_kp g4.kpm _ _ (tr3 rb)))
    · have h3 := nn a (by rw [ha]; exact fun z => nomatch z)
      cases e : upd H2 x (.ins C dx [(n1, vb)]) a with
      | none => exact h3 e
      | some o' => exact (g4.kp a o' e (by simp)).1 (by rw [z]; simp)
    · rw [upd_ne hax]
      refine (g4.kp a o ?_ (by simp)).2 ht
      rw [upd_ne hax]
      exact (g2.kp a o ((g1.kp a o ha (by simp)).2 ht) (by simp)).2 ht
    · by_cases z : a = x
      · rw [z, upd_same]; exact fun z => nomatch z
      · rw [upd_ne z]; exact g4.dm a (nn a ha)
end
section
variable {c : Cn} {S : Addr → Bool} {As As1 As2 : Ads} {H H1 : Hp} {M M1 M2 : List MO} {ρ : List Sl} {σ : L2.St} {P P' : Po} {ta tb tc te ti : TE} {s : Sl} {v w : V} {Q Q' : QS} {X : XP} {R : VK}
/-- C(x, y) -/
theorem ev_make {Cl : Addr} {n1 n2 : Str} {ok : PyData → PyData → Prop} {past : PyData → List PyData} {t : TA} {E : XK}
    (h : EA c t ρ M (fun ss M1 => ∃ b tm, ss = [.d b, .d tm] ∧ ok b tm ∧ Q (.ob Cl n1 n2 (.inl tm) (.inr M1.length)) (M1 ++ [.lst (past b)])) X) : EV c (tMake Cl (spI c.K c.T Cl n1 n2 ok past) [] E t) ρ M Q X := fun S As σ H e m R k kx =>
  h S As σ H e m _ (fun ss M1 As1 vs H1 ⟨b, tm, es, hok, q⟩ g1 m1 r1 x dx hx hdx hne => by
    subst es
    cases r1 with
    | @cons v1 _ vs _ d1 r1 =>
    cases r1 with
    | @cons v2 _ vs _ d2 r1 =>
    cases r1
    have ga := go_new (o := .own x) m1 hdx
    have ma := m1.new (o := .own x) hdx
    have hx2 : (upd H1 dx (.own x)) x = none := by rw [upd_ne (Ne.symm hne)]; exact hx
    have gb := go_new (o := .ins Cl dx []) ma hx2
    have mb := ma.new (o := .ins Cl dx []) hx2
    have g2 := ga.trans gb
    obtain ⟨sx, ax⟩ := m1.fresh hx
    let S' : Addr → Bool := fun a => S a || decide (a ∈ As1) || decide (a = x)
    have hS' : ∀ {a}, S' a = false → S a = false ∧ a ∉ As1 ∧ a ≠ x := fun {a} h => by
      simp [S'] at h
      exact ⟨h.1.1, h.1.2, h.2⟩
    have kp : Kp (hmk S As1 H1) (hmk S' [] (upd (upd H1 dx (.own x)) x (.ins Cl dx []))) := fun a o ha ht => by
      obtain ⟨h1, h2, h3⟩ := hmk_some ha
      have hax : a ≠ x := ne_of_none h3 hx
      refine hmk_of (by simp [S', h1, h2, hax]) (by simp) ?_
      rw [upd_ne hax, upd_ne (ne_of_none h3 hdx)]
      exact h3
    refine ⟨S', x, dx, v1, v2, b, tm, by simp, upd_same, by simp [S'], ⟨rfl, List.nodup_nil, fun a ha => absurd ha (by simp), fun a ha => ?_, fun i a mo e _ => (by simp at e), mb.tb, fun a ha o e => ?_⟩, dp_kp kp _ _ d1, dp_kp kp _ _ d2, hok, fun H5 p u m5 hk5 hd5 hx5 du => ⟨rfl, ?_⟩⟩
    · simp [S'] at ha
      rcases ha with (ha | ha) | ha
      · exact mb.sd a ha
      · exact mb.dom ha
      · rw [ha, upd_same]; exact fun z => nomatch z
    · simp [S'] at ha
      rcases ha with (ha | ha) | ha
      · exact mb.st a ha o e
      · exact mb.ntA ha e
      · rw [ha, upd_same] at e; cases e; rfl
    · obtain ⟨p1, p2, p3⟩ := hS' (m5.sS p (by simp))
      have gF : Go As1 H1 (As1 ++ [p]) H5 := by
        refine ⟨⟨[p], rfl⟩, fun a o ha na => ?_, fun a ha => hd5 a ?_⟩
        · have hax : a ≠ x := ne_of_none ha hx
          have h2 : upd (upd H1 dx (.own x)) x (.ins Cl dx []) a = some o := by rw [upd_ne hax, upd_ne (ne_of_none ha hdx)]; exact ha
          obtain ⟨q1, q2⟩ := hk5 a o h2 hax
          exact ⟨fun z => (List.mem_append.mp z).elim na (fun z => q1 (by simpa using z)), q2⟩
        · by_cases z : a = x
          · rw [z, upd_same]; exact fun z => nomatch z
          · rw [upd_ne z]
            by_cases z : a = dx
            · rw [z, upd_same]; exact fun z => nomatch z
            · rw [upd_ne z]; exact ha
      have kp5 : Kp (hmk S' [p] H5) (hmk S (As1 ++ [p]) H5) := fun a o ha _ => by
        obtain ⟨h1, h2, h3⟩ := hmk_some ha
        obtain ⟨q1, q2, q3⟩ := hS' h1
        exact hmk_of q1 (fun z => (List.mem_append.mp z).elim q2 h2) h3
      have mF : RM c.K c.T S (As1 ++ [p]) H5 (M1 ++ [.lst (past b)]) := by
        refine ⟨by rw [List.length_append, List.length_append, m1.len]; rfl, ?_, fun a ha => ?_, fun a ha => m5.sd a (by simp [S', ha]), fun i a mo e1 e2 => ?_, m5.tb, fun a ha => m5.st a (by simp [S', ha])⟩
        · rw [List.nodup_append]
          exact ⟨m1.nd, by simp, fun a ha b hb z => p2 (by simp at hb; subst hb; exact z ▸ ha)⟩
        · rcases List.mem_append.mp ha with z | z
          · exact m1.sS a z
          · simp at z; subst z; exact p1
        · rcases mem_app_ix e1 with e | ⟨e, ea⟩
          · have hi : i < M1.length := by rw [← m1.len]; exact (List.getElem?_eq_some_iff.mp e).1
            rw [List.getElem?_append_left hi] at e2
            have h0 := m1.at_ i a mo e e2
            have hmem := List.mem_of_getElem? e
            have keep : ∀ {o : HO}, H1 a = some o → isTbl o = false → H5 a = some o := fun {o} ho ht => by
              have hax : a ≠ x := ne_of_none ho hx
              exact (hk5 a o (by rw [upd_ne hax, upd_ne (ne_of_none ho hdx)]; exact ho) hax).2 ht
            cases mo with
            | lst ds =>
              obtain ⟨z, vs, e, r⟩ := h0
              exact ⟨z, vs, keep e rfl, dpAll_kp gF.kpm _ _ r⟩
            | dd fz kv =>
              obtain ⟨z, vs, e, r⟩ := h0
              exact ⟨z, vs, keep e (dkO_t _ _), dpAll_kp gF.kpm _ _ r⟩
            | ho o => exact ⟨keep h0.1 h0.2.1, h0.2⟩
            | P φ =>
              obtain ⟨o', eo, t, r⟩ := h0
              exact ⟨o', keep eo t, t, r⟩
          · subst ea
            rw [List.getElem?_append_right (by rw [e, m1.len]; exact Nat.le_refl _)] at e2
            have z : i - M1.length = 0 := by rw [e, m1.len]; omega
            rw [z] at e2
            simp at e2
            subst e2
            obtain ⟨z, vs, e, r⟩ := m5.at_ 0 a _ rfl rfl
            exact ⟨z, vs, e, dpAll_kp kp5 _ _ r⟩
      refine k _ _ (As1 ++ [p]) _ H5 q (g1.trans gF) mF ⟨x, dx, u, .ref p, rfl, hmk_of sx (fun z => (List.mem_append.mp z).elim ax (fun z => p3 (by simpa using (Eq.symm (by simpa using z))))) hx5, dp_kp kp5 _ _ du, p, by rw [← m1.len]; simp, rfl⟩) kx
end
end DL
namespace DL
open PySem PySem.Spec PyProof.Rows L2
section
variable {c : Cn} {M : List MO} {ρ : List Sl} {ta tb tc te : TE} {Q : QS} {X : XP}
theorem ev_notV (h : EV c ta ρ M (fun s M1 => ∃ b, s = .d (.bool b) ∧ Q (.d (.bool (!b))) M1) X) : EV c (tNotV ta) ρ M Q X := fun S As σ H e m R k kx =>
  h S As σ H e m _ (fun s M' As' v H' ⟨b, e1, q⟩ g m' r => by
    subst e1
    cases r
    exact ⟨b, rfl, k _ _ As' _ H' q g m' (.bl _)⟩) kx
theorem ev_notN (h : EV c ta ρ M (fun s M1 => ∃ x, s = .d x ∧ Q (.d (.bool (!isNon x))) M1) X) : EV c (tOp (fun x y H Q => y = .non ∧ Q (.bl (!decide (x = .non))) H) ta (tC .non)) ρ M Q X :=
  ev_op (EV.imp h (fun s M1 ⟨x, e1, q⟩ => ev_dv dv_non (by
    subst e1
    intro S As H v w hv hw m R k
    cases hw
    refine ⟨rfl, ?_⟩
    rw [dp_non (SlR.dp hv)]
    exact k.here q m (.bl _))) fun _ _ z => z)
/-- o == p, the memory kept -/
theorem dv_eqO {W : Wd} {C : Addr} {n1 n2 : Str} {i : Nat} {a b : PyData ⊕ Nat} {s1' s2' s2 : Sl} {r : Bool} (h : ρ[i]? = some (.ob C n1 n2 a b)) (hb : EV c tb ρ M (fun s M' => s = s2 ∧ M' = M) X0) (ho : isOb C n1 n2 s2 ∨ ∃ ds, s2 = .d (.tuple ds))
    (v1 : Vis M (.ob C n1 n2 a b) s1') (v2 : Vis M s2 s2') (hW : ∀ Q' : QS, Q' (.d (.bool r)) [] → W [s1', s2'] [] Q' X0) : Dv c (tOp (rEqO c.K C (spW c.K c.T W)) (tVar i) tb) ρ M (.bool r) :=
  ev_eqO (n1 := n1) (n2 := n2) (ev_var h (fun z => nomatch z) (EV.imp hb (fun s M' ⟨e1, e2⟩ => by
    subst e1; subst e2
    exact ⟨⟨a, b, rfl⟩, ho, s1', s2', r, v1, v2, hW, rfl, rfl⟩) fun _ _ z => z))
end
end DL

set_option Elab.async false
set_option linter.all false
set_option autoImplicit false
set_option maxRecDepth 100000
set_option maxHeartbeats 4000000
namespace FO
open PySem PySem.Spec PyProof.Rows L2 DL
def clsB : Stmt → List Stmt
  | .ClassDef (body := b) .. => b
  | _ => []
def topS (i : Nat) : Stmt := PySem.Challenge.pw_feeorders_k19_whole_an_account_step_by_s.main.body.getD i (.Pass ⟨0, 0, 0, 0⟩)
abbrev s_is_integer : Stmt := topS 13
abbrev N_is_integer : List Str := ["value", "low", "high"]
theorem sc_is_integer : FnScope N_is_integer ["value", "low", "high"] (defScope s_is_integer) := ⟨rfl, rfl, rfl, by decide +kernel, rfl, by decide +kernel, by decide +kernel⟩
abbrev s_require_balance : Stmt := topS 15
abbrev N_require_balance : List Str := ["balance"]
theorem sc_require_balance : FnScope N_require_balance ["balance"] (defScope s_require_balance) := ⟨rfl, rfl, rfl, by decide +kernel, rfl, by decide +kernel, by decide +kernel⟩
abbrev s_is_terms : Stmt := topS 14
abbrev N_is_terms : List Str := ["value"]
theorem sc_is_terms : FnScope N_is_terms ["value"] (defScope s_is_terms) := ⟨rfl, rfl, rfl, by decide +kernel, rfl, by decide +kernel, by decide +kernel⟩
abbrev s_require_terms : Stmt := topS 16
abbrev N_require_terms : List Str := ["terms"]
theorem sc_require_terms : FnScope N_require_terms ["terms"] (defScope s_require_terms) := ⟨rfl, rfl, rfl, by decide +kernel, rfl, by decide +kernel, by decide +kernel⟩
abbrev s_Account__init__ : Stmt := (clsB (topS 19)).getD 0 (.Pass ⟨0, 0, 0, 0⟩)
abbrev N_Account__init__ : List Str := ["self", "balance", "terms"]
theorem sc_Account__init__ : FnScope N_Account__init__ ["self", "balance", "terms"] (defScope s_Account__init__) := ⟨rfl, rfl, rfl, by decide +kernel, rfl, by decide +kernel, by decide +kernel⟩
abbrev s_Account_credit : Stmt := (clsB (topS 19)).getD 3 (.Pass ⟨0, 0, 0, 0⟩)
abbrev N_Account_credit : List Str := ["self", "amount", "balance", "posted", "charged"]
theorem sc_Account_credit : FnScope N_Account_credit ["self", "amount"] (defScope s_Account_credit) := ⟨rfl, rfl, rfl, by decide +kernel, rfl, by decide +kernel, by decide +kernel⟩
abbrev s_Account_debit : Stmt := (clsB (topS 19)).getD 4 (.Pass ⟨0, 0, 0, 0⟩)
abbrev N_Account_debit : List Str := ["self", "amount", "below", "balance", "posted", "charged"]
theorem sc_Account_debit : FnScope N_Account_debit ["self", "amount"] (defScope s_Account_debit) := ⟨rfl, rfl, rfl, by decide +kernel, rfl, by decide +kernel, by decide +kernel⟩
abbrev s_fees_for : Stmt := topS 17
abbrev N_fees_for : List Str := ["terms", "number", "limit", "fee", "cap"]
theorem sc_fees_for : FnScope N_fees_for ["terms", "number"] (defScope s_fees_for) := ⟨rfl, rfl, rfl, by decide +kernel, rfl, by decide +kernel, by decide +kernel⟩
abbrev s_Account_end_day : Stmt := (clsB (topS 19)).getD 5 (.Pass ⟨0, 0, 0, 0⟩)
abbrev N_Account_end_day : List Str := ["self", "fees", "balance", "posted", "charged"]
theorem sc_Account_end_day : FnScope N_Account_end_day ["self"] (defScope s_Account_end_day) := ⟨rfl, rfl, rfl, by decide +kernel, rfl, by decide +kernel, by decide +kernel⟩
abbrev s_Account_undo : Stmt := (clsB (topS 19)).getD 6 (.Pass ⟨0, 0, 0, 0⟩)
abbrev N_Account_undo : List Str := ["self"]
theorem sc_Account_undo : FnScope N_Account_undo ["self"] (defScope s_Account_undo) := ⟨rfl, rfl, rfl, by decide +kernel, rfl, by decide +kernel, by decide +kernel⟩
abbrev s_Account__len__ : Stmt := (clsB (topS 19)).getD 1 (.Pass ⟨0, 0, 0, 0⟩)
abbrev N_Account__len__ : List Str := ["self"]
theorem sc_Account__len__ : FnScope N_Account__len__ ["self"] (defScope s_Account__len__) := ⟨rfl, rfl, rfl, by decide +kernel, rfl, by decide +kernel, by decide +kernel⟩
abbrev s_Account_balance : Stmt := (clsB (topS 19)).getD 7 (.Pass ⟨0, 0, 0, 0⟩)
abbrev N_Account_balance : List Str := ["self"]
theorem sc_Account_balance : FnScope N_Account_balance ["self"] (defScope s_Account_balance) := ⟨rfl, rfl, rfl, by decide +kernel, rfl, by decide +kernel, by decide +kernel⟩
abbrev s_Account_charged : Stmt := (clsB (topS 19)).getD 8 (.Pass ⟨0, 0, 0, 0⟩)
abbrev N_Account_charged : List Str := ["self"]
theorem sc_Account_charged : FnScope N_Account_charged ["self"] (defScope s_Account_charged) := ⟨rfl, rfl, rfl, by decide +kernel, rfl, by decide +kernel, by decide +kernel⟩
abbrev s_Account__eq__ : Stmt := (clsB (topS 19)).getD 2 (.Pass ⟨0, 0, 0, 0⟩)
abbrev N_Account__eq__ : List Str := ["self", "other"]
theorem sc_Account__eq__ : FnScope N_Account__eq__ ["self", "other"] (defScope s_Account__eq__) := ⟨rfl, rfl, rfl, by decide +kernel, rfl, by decide +kernel, by decide +kernel⟩
abbrev s__law_bag : Stmt := topS 21
abbrev N__law_bag : List Str := ["script", "k", "cell", "seed"]
theorem sc__law_bag : FnScope N__law_bag ["script", "k"] (defScope s__law_bag) := ⟨rfl, rfl, rfl, by decide +kernel, rfl, by decide +kernel, by decide +kernel⟩
abbrev s__law_take : Stmt := topS 22
abbrev N__law_take : List Str := ["bag", "count", "found"]
theorem sc__law_take : FnScope N__law_take ["bag", "count"] (defScope s__law_take) := ⟨rfl, rfl, rfl, by decide +kernel, rfl, by decide +kernel, by decide +kernel⟩
abbrev s__law_of : Stmt := topS 23
abbrev N__law_of : List Str := ["bag", "some"]
theorem sc__law_of : FnScope N__law_of ["bag", "some"] (defScope s__law_of) := ⟨rfl, rfl, rfl, by decide +kernel, rfl, by decide +kernel, by decide +kernel⟩
abbrev s__law_action : Stmt := topS 26
abbrev N__law_action : List Str := ["bag", "way", "amount"]
theorem sc__law_action : FnScope N__law_action ["bag"] (defScope s__law_action) := ⟨rfl, rfl, rfl, by decide +kernel, rfl, by decide +kernel, by decide +kernel⟩
abbrev s__law_due : Stmt := topS 25
abbrev N__law_due : List Str := ["terms", "states_so", "action", "amount", "below", "here", "posted", "wrong", "limit", "fee", "cap", "fees"]
theorem sc__law_due : FnScope N__law_due ["terms", "states_so", "action"] (defScope s__law_due) := ⟨rfl, rfl, rfl, by decide +kernel, rfl, by decide +kernel, by decide +kernel⟩
abbrev s__law_did : Stmt := topS 24
abbrev N__law_did : List Str := ["run", "action", "e", "some", "word", "good"]
theorem sc__law_did : FnScope N__law_did ["run", "action"] (defScope s__law_did) := ⟨rfl, rfl, rfl, by decide +kernel, rfl, by decide +kernel, by decide +kernel⟩
abbrev s_law : Stmt := topS 27
abbrev N_law : List Str := ["script", "bag", "terms", "start", "k", "other", "run", "twin", "states_so", "turn", "action", "due", "told", "here", "posted", "wrong"]
theorem sc_law : FnScope N_law ["script"] (defScope s_law) := ⟨rfl, rfl, rfl, by decide +kernel, rfl, by decide +kernel, by decide +kernel⟩
structure Ad where
  is_integer : Addr
  fd_is_integer : FuncData
  require_balance : Addr
  fd_require_balance : FuncData
  is_terms : Addr
  fd_is_terms : FuncData
  require_terms : Addr
  fd_require_terms : FuncData
  Account__init__ : Addr
  fd_Account__init__ : FuncData
  Account_credit : Addr
  fd_Account_credit : FuncData
  Account_debit : Addr
  fd_Account_debit : FuncData
  fees_for : Addr
  fd_fees_for : FuncData
  Account_end_day : Addr
  fd_Account_end_day : FuncData
  Account_undo : Addr
  fd_Account_undo : FuncData
  Account__len__ : Addr
  fd_Account__len__ : FuncData
  Account_balance : Addr
  fd_Account_balance : FuncData
  Account_charged : Addr
  fd_Account_charged : FuncData
  Account__eq__ : Addr
  fd_Account__eq__ : FuncData
  _law_bag : Addr
  fd__law_bag : FuncData
  _law_take : Addr
  fd__law_take : FuncData
  _law_of : Addr
  fd__law_of : FuncData
  _law_action : Addr
  fd__law_action : FuncData
  _law_due : Addr
  fd__law_due : FuncData
  _law_did : Addr
  fd__law_did : FuncData
  law : Addr
  fd_law : FuncData
  Account : Addr
  FeeError : Addr
  InvalidAmount : Addr
  InvalidBalance : Addr
  InvalidTerms : Addr
  NothingToUndo : Addr
  TooLate : Addr
structure Tx (K : PySem.W.Frag) (mg : Str → Option Value) (a : Ad) : Prop where
  F_is_integer : Fun K "is_integer" "is_integer" s_is_integer a.is_integer a.fd_is_integer
  g_is_integer : mg "is_integer" = some (.ref a.is_integer)
  b_is_integer : Binds K a.fd_is_integer ["value", "low", "high"] []
  F_require_balance : Fun K "require_balance" "require_balance" s_require_balance a.require_balance a.fd_require_balance
  g_require_balance : mg "require_balance" = some (.ref a.require_balance)
  b_require_balance : Binds K a.fd_require_balance ["balance"] []
  F_is_terms : Fun K "is_terms" "is_terms" s_is_terms a.is_terms a.fd_is_terms
  g_is_terms : mg "is_terms" = some (.ref a.is_terms)
  b_is_terms : Binds K a.fd_is_terms ["value"] []
  F_require_terms : Fun K "require_terms" "require_terms" s_require_terms a.require_terms a.fd_require_terms
  g_require_terms : mg "require_terms" = some (.ref a.require_terms)
  b_require_terms : Binds K a.fd_require_terms ["terms"] []
  F_Account__init__ : Fun K "__init__" "Account.__init__" s_Account__init__ a.Account__init__ a.fd_Account__init__
  mk_Account : Mk K a.Account a.Account__init__
  b_Account__init__ : Binds K a.fd_Account__init__ ["self", "balance", "terms"] []
  F_Account_credit : Fun K "credit" "Account.credit" s_Account_credit a.Account_credit a.fd_Account_credit
  me_Account_credit : Meth K a.Account "credit" a.Account_credit
  b_Account_credit : Binds K a.fd_Account_credit ["self", "amount"] []
  F_Account_debit : Fun K "debit" "Account.debit" s_Account_debit a.Account_debit a.fd_Account_debit
  me_Account_debit : Meth K a.Account "debit" a.Account_debit
  b_Account_debit : Binds K a.fd_Account_debit ["self", "amount"] []
  F_fees_for : Fun K "fees_for" "fees_for" s_fees_for a.fees_for a.fd_fees_for
  g_fees_for : mg "fees_for" = some (.ref a.fees_for)
  b_fees_for : Binds K a.fd_fees_for ["terms", "number"] []
  F_Account_end_day : Fun K "end_day" "Account.end_day" s_Account_end_day a.Account_end_day a.fd_Account_end_day
  me_Account_end_day : Meth K a.Account "end_day" a.Account_end_day
  b_Account_end_day : Binds K a.fd_Account_end_day ["self"] []
  F_Account_undo : Fun K "undo" "Account.undo" s_Account_undo a.Account_undo a.fd_Account_undo
  me_Account_undo : Meth K a.Account "undo" a.Account_undo
  b_Account_undo : Binds K a.fd_Account_undo ["self"] []
  F_Account__len__ : Fun K "__len__" "Account.__len__" s_Account__len__ a.Account__len__ a.fd_Account__len__
  me_Account__len__ : Meth K a.Account "__len__" a.Account__len__
  b_Account__len__ : Binds K a.fd_Account__len__ ["self"] []
  F_Account_balance : Fun K "balance" "Account.balance" s_Account_balance a.Account_balance a.fd_Account_balance
  me_Account_balance : Meth K a.Account "balance" a.Account_balance
  b_Account_balance : Binds K a.fd_Account_balance ["self"] []
  F_Account_charged : Fun K "charged" "Account.charged" s_Account_charged a.Account_charged a.fd_Account_charged
  me_Account_charged : Meth K a.Account "charged" a.Account_charged
  b_Account_charged : Binds K a.fd_Account_charged ["self"] []
  F_Account__eq__ : Fun K "__eq__" "Account.__eq__" s_Account__eq__ a.Account__eq__ a.fd_Account__eq__
  me_Account__eq__ : Meth K a.Account "__eq__" a.Account__eq__
  b_Account__eq__ : Binds K a.fd_Account__eq__ ["self", "other"] []
  F__law_bag : Fun K "_law_bag" "_law_bag" s__law_bag a._law_bag a.fd__law_bag
  g__law_bag : mg "_law_bag" = some (.ref a._law_bag)
  b__law_bag : Binds K a.fd__law_bag ["script", "k"] []
  F__law_take : Fun K "_law_take" "_law_take" s__law_take a._law_take a.fd__law_take
  g__law_take : mg "_law_take" = some (.ref a._law_take)
  b__law_take : Binds K a.fd__law_take ["bag", "count"] []
  F__law_of : Fun K "_law_of" "_law_of" s__law_of a._law_of a.fd__law_of
  g__law_of : mg "_law_of" = some (.ref a._law_of)
  b__law_of : Binds K a.fd__law_of ["bag", "some"] []
  F__law_action : Fun K "_law_action" "_law_action" s__law_action a._law_action a.fd__law_action
  g__law_action : mg "_law_action" = some (.ref a._law_action)
  b__law_action : Binds K a.fd__law_action ["bag"] []
  F__law_due : Fun K "_law_due" "_law_due" s__law_due a._law_due a.fd__law_due
  g__law_due : mg "_law_due" = some (.ref a._law_due)
  b__law_due : Binds K a.fd__law_due ["terms", "states_so", "action"] []
  F__law_did : Fun K "_law_did" "_law_did" s__law_did a._law_did a.fd__law_did
  g__law_did : mg "_law_did" = some (.ref a._law_did)
  b__law_did : Binds K a.fd__law_did ["run", "action"] []
  F_law : Fun K "law" "law" s_law a.law a.fd_law
  b_law : Binds K a.fd_law ["script"] []
  m_bool : mg "bool" = none
  m_int : mg "int" = none
  m_isinstance : mg "isinstance" = none
  m_len : mg "len" = none
  m_min : mg "min" = none
  m_range : mg "range" = none
  m_tuple : mg "tuple" = none
  m_zip : mg "zip" = none
  c_AMOUNT : ∃ tk, mg "AMOUNT" = some (.int 1000000 tk)
  c_BALANCE : ∃ tk, mg "BALANCE" = some (.int 1000000000 tk)
  c_DEBITS : ∃ tk, mg "DEBITS" = some (.int 10 tk)
  c_FEE : ∃ tk, mg "FEE" = some (.int 100000 tk)
  c_LIMIT : ∃ tk, mg "LIMIT" = some (.int 1000000 tk)
  g_Account : mg "Account" = some (.ref a.Account)
  g_FeeError : mg "FeeError" = some (.ref a.FeeError)
  g_InvalidAmount : mg "InvalidAmount" = some (.ref a.InvalidAmount)
  g_InvalidBalance : mg "InvalidBalance" = some (.ref a.InvalidBalance)
  g_InvalidTerms : mg "InvalidTerms" = some (.ref a.InvalidTerms)
  g_NothingToUndo : mg "NothingToUndo" = some (.ref a.NothingToUndo)
  g_TooLate : mg "TooLate" = some (.ref a.TooLate)
  cls_Account : Cls K a.Account
  na_Account_terms : NoAttr K a.Account "terms"
  na_Account_past : NoAttr K a.Account "past"
  st_Account : PySem.W.subIn K (.type "tuple") (.ref a.Account) = some false
  ca_Account : PySem.W.findIn K (.ref a.Account) "__class__" = some (some (.builtin "object.__class__"))
  cn_Account : PySem.W.specialIn K (.builtin "object.__class__") "__get__" = some (some (.builtin "getset_descriptor.__get__"))
  ct_Account : PySem.W.takesIn K (.builtin "object.__class__") = some true
  cm_Account : PySem.W.mroIn K a.Account (.type "object") = some true
  ck_Account : PySem.W.kitOne K (.ref a.Account) (.ref a.Account) = some true
  cf_Account : PySem.W.kitOne K (.type "tuple") (.ref a.Account) = some false
  x_InvalidAmount : PySem.W.excIn K a.InvalidAmount [.type "ValueError", .type "Exception", .type "BaseException", .type "object"] "ValueError.__new__" = true
  k_InvalidAmount : PySem.W.keepIn K (.ref a.InvalidAmount) = true
  e_InvalidAmount : PySem.W.subIn K (.ref a.InvalidAmount) (.type "BaseException") = some true
  y_InvalidAmount : PySem.W.typeIn K (.ref a.InvalidAmount) = some (.type "type")
  x_InvalidBalance : PySem.W.excIn K a.InvalidBalance [.type "ValueError", .type "Exception", .type "BaseException", .type "object"] "ValueError.__new__" = true
  k_InvalidBalance : PySem.W.keepIn K (.ref a.InvalidBalance) = true
  e_InvalidBalance : PySem.W.subIn K (.ref a.InvalidBalance) (.type "BaseException") = some true
  y_InvalidBalance : PySem.W.typeIn K (.ref a.InvalidBalance) = some (.type "type")
  x_InvalidTerms : PySem.W.excIn K a.InvalidTerms [.type "ValueError", .type "Exception", .type "BaseException", .type "object"] "ValueError.__new__" = true
  k_InvalidTerms : PySem.W.keepIn K (.ref a.InvalidTerms) = true
  e_InvalidTerms : PySem.W.subIn K (.ref a.InvalidTerms) (.type "BaseException") = some true
  y_InvalidTerms : PySem.W.typeIn K (.ref a.InvalidTerms) = some (.type "type")
  x_NothingToUndo : PySem.W.excIn K a.NothingToUndo [.type "ValueError", .type "Exception", .type "BaseException", .type "object"] "ValueError.__new__" = true
  k_NothingToUndo : PySem.W.keepIn K (.ref a.NothingToUndo) = true
  e_NothingToUndo : PySem.W.subIn K (.ref a.NothingToUndo) (.type "BaseException") = some true
  y_NothingToUndo : PySem.W.typeIn K (.ref a.NothingToUndo) = some (.type "type")
  x_TooLate : PySem.W.excIn K a.TooLate [.type "ValueError", .type "Exception", .type "BaseException", .type "object"] "ValueError.__new__" = true
  k_TooLate : PySem.W.keepIn K (.ref a.TooLate) = true
  e_TooLate : PySem.W.subIn K (.ref a.TooLate) (.type "BaseException") = some true
  y_TooLate : PySem.W.typeIn K (.ref a.TooLate) = some (.type "type")
  t_InvalidAmount_FeeError : PySem.W.exmOne K (.ref a.InvalidAmount) (.ref a.FeeError) = some true
  t_TooLate_FeeError : PySem.W.exmOne K (.ref a.TooLate) (.ref a.FeeError) = some true
  t_NothingToUndo_FeeError : PySem.W.exmOne K (.ref a.NothingToUndo) (.ref a.FeeError) = some true
  ec_InvalidAmount : ExcC K a.InvalidAmount
  ec_NothingToUndo : ExcC K a.NothingToUndo
  ec_TooLate : ExcC K a.TooLate
  i_InvalidAmount_InvalidAmount : PySem.W.kitOne K (.ref a.InvalidAmount) (.ref a.InvalidAmount) = some true
  i_InvalidAmount_TooLate : PySem.W.kitOne K (.ref a.InvalidAmount) (.ref a.TooLate) = some false
  i_InvalidAmount_NothingToUndo : PySem.W.kitOne K (.ref a.InvalidAmount) (.ref a.NothingToUndo) = some false
  i_TooLate_InvalidAmount : PySem.W.kitOne K (.ref a.TooLate) (.ref a.InvalidAmount) = some false
  i_TooLate_TooLate : PySem.W.kitOne K (.ref a.TooLate) (.ref a.TooLate) = some true
  i_TooLate_NothingToUndo : PySem.W.kitOne K (.ref a.TooLate) (.ref a.NothingToUndo) = some false
  i_NothingToUndo_InvalidAmount : PySem.W.kitOne K (.ref a.NothingToUndo) (.ref a.InvalidAmount) = some false
  i_NothingToUndo_TooLate : PySem.W.kitOne K (.ref a.NothingToUndo) (.ref a.TooLate) = some false
  i_NothingToUndo_NothingToUndo : PySem.W.kitOne K (.ref a.NothingToUndo) (.ref a.NothingToUndo) = some true
def d_is_integer : He.DefD := ⟨("is_integer", none), "is_integer", "is_integer", L2.defArgs s_is_integer, L2.defBody s_is_integer, L2.defScope s_is_integer, [], []⟩
def d_require_balance : He.DefD := ⟨("require_balance", none), "require_balance", "require_balance", L2.defArgs s_require_balance, L2.defBody s_require_balance, L2.defScope s_require_balance, [], []⟩
def d_is_terms : He.DefD := ⟨("is_terms", none), "is_terms", "is_terms", L2.defArgs s_is_terms, L2.defBody s_is_terms, L2.defScope s_is_terms, [], []⟩
def d_require_terms : He.DefD := ⟨("require_terms", none), "require_terms", "require_terms", L2.defArgs s_require_terms, L2.defBody s_require_terms, L2.defScope s_require_terms, [], []⟩
def d_Account__init__ : He.DefD := ⟨("Account", some "__init__"), "__init__", "Account.__init__", L2.defArgs s_Account__init__, L2.defBody s_Account__init__, L2.defScope s_Account__init__, [], []⟩
def d_Account_credit : He.DefD := ⟨("Account", some "credit"), "credit", "Account.credit", L2.defArgs s_Account_credit, L2.defBody s_Account_credit, L2.defScope s_Account_credit, [], []⟩
def d_Account_debit : He.DefD := ⟨("Account", some "debit"), "debit", "Account.debit", L2.defArgs s_Account_debit, L2.defBody s_Account_debit, L2.defScope s_Account_debit, [], []⟩
def d_fees_for : He.DefD := ⟨("fees_for", none), "fees_for", "fees_for", L2.defArgs s_fees_for, L2.defBody s_fees_for, L2.defScope s_fees_for, [], []⟩
def d_Account_end_day : He.DefD := ⟨("Account", some "end_day"), "end_day", "Account.end_day", L2.defArgs s_Account_end_day, L2.defBody s_Account_end_day, L2.defScope s_Account_end_day, [], []⟩
def d_Account_undo : He.DefD := ⟨("Account", some "undo"), "undo", "Account.undo", L2.defArgs s_Account_undo, L2.defBody s_Account_undo, L2.defScope s_Account_undo, [], []⟩
def d_Account__len__ : He.DefD := ⟨("Account", some "__len__"), "__len__", "Account.__len__", L2.defArgs s_Account__len__, L2.defBody s_Account__len__, L2.defScope s_Account__len__, [], []⟩
def d_Account_balance : He.DefD := ⟨("Account", some "balance"), "balance", "Account.balance", L2.defArgs s_Account_balance, L2.defBody s_Account_balance, L2.defScope s_Account_balance, [], []⟩
def d_Account_charged : He.DefD := ⟨("Account", some "charged"), "charged", "Account.charged", L2.defArgs s_Account_charged, L2.defBody s_Account_charged, L2.defScope s_Account_charged, [], []⟩
def d_Account__eq__ : He.DefD := ⟨("Account", some "__eq__"), "__eq__", "Account.__eq__", L2.defArgs s_Account__eq__, L2.defBody s_Account__eq__, L2.defScope s_Account__eq__, [], []⟩
def d__law_bag : He.DefD := ⟨("_law_bag", none), "_law_bag", "_law_bag", L2.defArgs s__law_bag, L2.defBody s__law_bag, L2.defScope s__law_bag, [], []⟩
def d__law_take : He.DefD := ⟨("_law_take", none), "_law_take", "_law_take", L2.defArgs s__law_take, L2.defBody s__law_take, L2.defScope s__law_take, [], []⟩
def d__law_of : He.DefD := ⟨("_law_of", none), "_law_of", "_law_of", L2.defArgs s__law_of, L2.defBody s__law_of, L2.defScope s__law_of, [], []⟩
def d__law_action : He.DefD := ⟨("_law_action", none), "_law_action", "_law_action", L2.defArgs s__law_action, L2.defBody s__law_action, L2.defScope s__law_action, [], []⟩
def d__law_due : He.DefD := ⟨("_law_due", none), "_law_due", "_law_due", L2.defArgs s__law_due, L2.defBody s__law_due, L2.defScope s__law_due, [], []⟩
def d__law_did : He.DefD := ⟨("_law_did", none), "_law_did", "_law_did", L2.defArgs s__law_did, L2.defBody s__law_did, L2.defScope s__law_did, [], []⟩
def d_law : He.DefD := ⟨("law", none), "law", "law", L2.defArgs s_law, L2.defBody s_law, L2.defScope s_law, [], []⟩
def faL : List He.Fa := [.glo "is_integer", .glo "require_balance", .glo "is_terms", .glo "require_terms", .glo "fees_for", .glo "_law_bag", .glo "_law_take", .glo "_law_of", .glo "_law_action", .glo "_law_due", .glo "_law_did", .glo "law", .mkr "Account", .meth "Account" "credit", .meth "Account" "debit", .meth "Account" "end_day", .meth "Account" "undo", .meth "Account" "__len__", .meth "Account" "balance", .meth "Account" "charged", .meth "Account" "__eq__", .cls "Account", .noat "Account" "terms", .noat "Account" "past", .glo "Account", .glo "FeeError", .glo "InvalidAmount", .glo "InvalidBalance", .glo "InvalidTerms", .glo "NothingToUndo", .glo "TooLate", .free "bool", .free "int", .free "isinstance", .free "len", .free "min", .free "range", .free "tuple", .free "zip", .int "AMOUNT" 1000000, .int "BALANCE" 1000000000, .int "DEBITS" 10, .int "FEE" 100000, .int "LIMIT" 1000000, .exc "InvalidAmount", .exc "InvalidBalance", .exc "InvalidTerms", .exc "NothingToUndo", .exc "TooLate", .exm "InvalidAmount" "FeeError" true, .exm "TooLate" "FeeError" true, .exm "NothingToUndo" "FeeError" true]
def fnL : List He.DefD := [d_is_integer, d_require_balance, d_is_terms, d_require_terms, d_Account__init__, d_Account_credit, d_Account_debit, d_fees_for, d_Account_end_day, d_Account_undo, d_Account__len__, d_Account_balance, d_Account_charged, d_Account__eq__, d__law_bag, d__law_take, d__law_of, d__law_action, d__law_due, d__law_did, d_law]
def exsL (K : PySem.W.Frag) : List Bool := [(excCs K (He.ga K "InvalidAmount")).all id, (excCs K (He.ga K "NothingToUndo")).all id, (excCs K (He.ga K "TooLate")).all id, decide (PySem.W.kitOne K (.ref (He.ga K "InvalidAmount")) (.ref (He.ga K "InvalidAmount")) = some true), decide (PySem.W.kitOne K (.ref (He.ga K "InvalidAmount")) (.ref (He.ga K "TooLate")) = some false), decide (PySem.W.kitOne K (.ref (He.ga K "InvalidAmount")) (.ref (He.ga K "NothingToUndo")) = some false), decide (PySem.W.kitOne K (.ref (He.ga K "TooLate")) (.ref (He.ga K "InvalidAmount")) = some false), decide (PySem.W.kitOne K (.ref (He.ga K "TooLate")) (.ref (He.ga K "TooLate")) = some true), decide (PySem.W.kitOne K (.ref (He.ga K "TooLate")) (.ref (He.ga K "NothingToUndo")) = some false), decide (PySem.W.kitOne K (.ref (He.ga K "NothingToUndo")) (.ref (He.ga K "InvalidAmount")) = some false), decide (PySem.W.kitOne K (.ref (He.ga K "NothingToUndo")) (.ref (He.ga K "TooLate")) = some false), decide (PySem.W.kitOne K (.ref (He.ga K "NothingToUndo")) (.ref (He.ga K "NothingToUndo")) = some true), decide (PySem.W.subIn K (.type "tuple") (.ref (He.ga K "Account")) = some false), decide (PySem.W.findIn K (.ref (He.ga K "Account")) "__class__" = some (some (.builtin "object.__class__"))), decide (PySem.W.specialIn K (.builtin "object.__class__") "__get__" = some (some (.builtin "getset_descriptor.__get__"))), decide (PySem.W.takesIn K (.builtin "object.__class__") = some true), decide (PySem.W.mroIn K (He.ga K "Account") (.type "object") = some true), decide (PySem.W.kitOne K (.ref (He.ga K "Account")) (.ref (He.ga K "Account")) = some true), decide (PySem.W.kitOne K (.type "tuple") (.ref (He.ga K "Account")) = some false)]
def exL (K : PySem.W.Frag) : Bool := (exsL K).all id
abbrev RW : PySem.W.OpenRow := PySem.W.OpenLaw.row PySem.Challenge.rw_feeorders_k19_whole_an_account_step_by_s
abbrev hkL : PySem.W.Hook := He.hookX 4 faL fnL [] [] exL
def obL (s : PySem.W.SharedT) : He.AlX := He.obsX 4 faL fnL [] [] exL (HandSHeadRun.getT s)
theorem obL_eq (s : PySem.W.SharedT) : obL s = hkL.obs s.abs := He.obsX_eq (HandSHeadRun.getT_eq s)
def looseL : List PySem.Str := (["FeeError", "InvalidBalance", "InvalidTerms", "InvalidAmount", "TooLate", "NothingToUndo", "DEBITS", "AMOUNT", "BALANCE", "LIMIT", "FEE", "is_integer", "is_terms", "require_balance", "require_terms", "fees_for", "Account", "_law_bag", "_law_take", "_law_of", "_law_did", "_law_due", "_law_action"] : List PySem.Str)
theorem runL (w : World) : HandSHeadRun.RunEq RW (PySem.W.view RW.prog [27]) hkL obL 40000 looseL w := by
  intro os
  kernel_rfl
def isInt : PyData → Int → Int → Bool
  | .int v, lo, hi => decide (lo ≤ v) && decide (v ≤ hi)
  | _, _, _ => false
def isBal (x : PyData) : Bool := isInt x (0 - 1000000000) 1000000000
def isDay : PyData → Bool
  | .tuple [cr, .tuple ds] => isInt cr 0 1000000000 && decide (ds.length ≤ 10) && ds.all (fun d => isInt d 1 1000000)
  | _ => false
theorem not_true {b : Bool} (h : (!b) = true) : b = false := by cases b <;> simp_all
theorem not_false {b : Bool} (h : (!b) = false) : b = true := by cases b <;> simp_all
theorem cv {c : Cn} {W : Wd} {ta : TA} {ρ : List Sl} {M : List MO} {ds : List PyData} {z : PyData} {E : XK} (hW : ∀ Q : QS, Q (.d z) [] → W (ds.map .d) [] Q X0) (h : Da c ta ρ M ds) : Dv c (tCall (spW c.K c.T W) [] E ta) ρ M z :=
  ev_call0 (ea_da h ⟨fun s hs => by obtain ⟨d, _, rfl⟩ := List.mem_map.mp hs; trivial, hW _ ⟨rfl, List.append_nil _⟩⟩)
theorem cl {c : Cn} {W : Wd} {ta : TA} {ρ : List Sl} {M : List MO} {ds zs : List PyData} {E : XK} (hW : ∀ Q : QS, Q (.m 0) [.lst zs] → W (ds.map .d) [] Q X0) (h : Da c ta ρ M ds) : Dl c (tCall (spW c.K c.T W) [] E ta) ρ M zs :=
  ev_call0 (ea_da h ⟨fun s hs => by obtain ⟨d, _, rfl⟩ := List.mem_map.mp hs; trivial, hW _ ⟨by show Sl.m (0 + M.length) = _; rw [Nat.zero_add], rfl⟩⟩)
def isI : PyData → Bool
  | .int _ => true
  | .bool _ => true
  | _ => false
def isB : PyData → Bool
  | .bool _ => true
  | _ => false
theorem kit_int (x : PyData) : kitB (tyD x) "int" = some (isI x) := by
  cases x
  · exact (by decide +kernel : kitB "NoneType" "int" = some false)
  · exact (by decide +kernel : kitB "bool" "int" = some true)
  · exact (by decide +kernel : kitB "int" "int" = some true)
  · exact (by decide +kernel : kitB "str" "int" = some false)
  · exact (by decide +kernel : kitB "list" "int" = some false)
  · exact (by decide +kernel : kitB "tuple" "int" = some false)
  · exact (by decide +kernel : kitB "dict" "int" = some false)
theorem kit_bool (x : PyData) : kitB (tyD x) "bool" = some (isB x) := by
  cases x
  · exact (by decide +kernel : kitB "NoneType" "bool" = some false)
  · exact (by decide +kernel : kitB "bool" "bool" = some true)
  · exact (by decide +kernel : kitB "int" "bool" = some false)
  · exact (by decide +kernel : kitB "str" "bool" = some false)
  · exact (by decide +kernel : kitB "list" "bool" = some false)
  · exact (by decide +kernel : kitB "tuple" "bool" = some false)
  · exact (by decide +kernel : kitB "dict" "bool" = some false)
def isTup : PyData → Bool
  | .tuple _ => true
  | _ => false
theorem isTup_of {x : PyData} (h : isTup x = true) : ∃ ds, x = .tuple ds := by
  cases x <;> first | exact ⟨_, rfl⟩ | cases h
theorem kit_tuple (x : PyData) : kitB (tyD x) "tuple" = some (isTup x) := by
  cases x
  · exact (by decide +kernel : kitB "NoneType" "tuple" = some false)
  · exact (by decide +kernel : kitB "bool" "tuple" = some false)
  · exact (by decide +kernel : kitB "int" "tuple" = some false)
  · exact (by decide +kernel : kitB "str" "tuple" = some false)
  · exact (by decide +kernel : kitB "list" "tuple" = some false)
  · exact (by decide +kernel : kitB "tuple" "tuple" = some true)
  · exact (by decide +kernel : kitB "dict" "tuple" = some false)

def isLim (x : PyData) : Bool := isInt x (0 - 1000000) 1000000
def Chk (b : Bool) (A B : Prop) : Prop := (b = true → B) ∧ (b = false → A)
theorem len2 {α : Type} {l : List α} (h : l.length = 2) : ∃ a b, l = [a, b] := by
  match l, h with
  | [a, b], _ => exact ⟨a, b, rfl⟩
theorem isDay2 (a b : PyData) : isDay (.tuple [a, b]) = (isInt a 0 1000000000 && isTup b && (match b with | .tuple ds => decide (ds.length ≤ 10) && ds.all (fun d => isInt d 1 1000000) | _ => false)) := by
  cases b <;> simp [isDay, isTup, Bool.and_assoc]
theorem isDay3 (a : PyData) (ds : List PyData) : isDay (.tuple [a, .tuple ds]) = (isInt a 0 1000000000 && decide (ds.length ≤ 10) && ds.all (fun d => isInt d 1 1000000)) := rfl
theorem all_map_id {α : Type} (l : List α) (p : α → Bool) : (l.map p).all id = l.all p := by
  rw [List.all_map]; rfl
theorem notm1 {ds : List PyData} : ∀ s ∈ ds.map Sl.d, notM s := fun s hs => by obtain ⟨d, _, rfl⟩ := List.mem_map.mp hs; trivial
def ival : PyData → Int
  | .int v => v
  | _ => 0
def seqLen : PyData → Nat
  | .tuple ds => ds.length
  | _ => 0
def rangeI (n : Nat) : List Int := (List.range n).map fun i : Nat => (i : Int)
def isOrder (n : Nat) : PyData → Bool
  | .tuple ds => ds.all (fun d => isInt d 0 10) && decide (isort (ds.map ival) = rangeI n)
  | _ => false
theorem isOrder1 (n : Nat) (ds : List PyData) : isOrder n (.tuple ds) = (ds.all (fun d => isInt d 0 10) && decide (isort (ds.map ival) = rangeI n)) := rfl
theorem ints_of {ds : List PyData} {lo hi : Int} (h : (ds.all fun d => isInt d lo hi) = true) : ∃ ns : List Int, ds = ns.map .int := by
  induction ds with
  | nil => exact ⟨[], rfl⟩
  | cons d ds ih =>
    rw [List.all_cons, Bool.and_eq_true] at h
    obtain ⟨ns, rfl⟩ := ih h.2
    cases d with
    | int v => exact ⟨v :: ns, rfl⟩
    | _ => cases h.1
theorem rngD_ints (n : Nat) : rngD 0 n = (rangeI n).map .int := by
  unfold rngD rangeI
  rw [List.map_map]
  apply List.map_congr_left
  intro i _
  simp
theorem eqvAll_ints : ∀ xs ys : List Int, PyData.eqvAll (xs.map .int) (ys.map .int) = decide (xs = ys)
  | [], [] => by simp [PyData.eqvAll]
  | [], _ :: _ => by simp [PyData.eqvAll]
  | _ :: _, [] => by simp [PyData.eqvAll]
  | x :: xs, y :: ys => by
    rw [List.map_cons, List.map_cons, PyData.eqvAll, eqvAll_ints xs ys, PyData.eqv]
    by_cases h : x = y <;> by_cases h' : xs = ys <;> simp [h, h']
theorem eqv_intsL (xs ys : List Int) : PyData.bool (PyData.eqv (.list (xs.map .int)) (.list (ys.map .int))) = .bool (decide (xs = ys)) := by
  rw [PyData.eqv, eqvAll_ints]
theorem canLay_ints : ∀ ns : List Int, PyData.canLayAll0 (ns.map .int) = true
  | [] => by simp [PyData.canLayAll0]
  | n :: ns => by simp [PyData.canLayAll0, PyData.canLay0, canLay_ints ns]
theorem depth_ints0 : ∀ ns : List Int, PyData.depthAll (ns.map .int) = 0
  | [] => by simp [PyData.depthAll]
  | n :: ns => by simp [PyData.depthAll, PyData.depth, depth_ints0 ns]
theorem shaped_ints (ns : List Int) : SeqAt.shaped (.list (ns.map .int)) = true := by
  simp [SeqAt.shaped, PyData.canLay0, canLay_ints, PyData.depth, depth_ints0]
theorem shaped_intsT (ns : List Int) : SeqAt.shaped (.tuple (ns.map .int)) = true := by
  simp [SeqAt.shaped, PyData.canLay0, canLay_ints, PyData.depth, depth_ints0]
theorem shaped_rng (b : Nat) : SeqAt.shaped (.list (rngD 0 b)) = true := by
  rw [rngD_ints]; exact shaped_ints _
theorem isDay0 {ds : List PyData} (h : ¬ ds.length = 2) : isDay (.tuple ds) = false := by
  match ds, h with
  | [], _ => rfl
  | [a], _ => rfl
  | [a, b], h => exact absurd rfl h
  | _ :: _ :: _ :: _, _ => simp [isDay]
abbrev dayD (cr : Int) (ds : List Int) : PyData := .tuple [.int cr, .tuple (ds.map .int)]
abbrev ordD (os : List Nat) : PyData := .tuple (os.map natD)
def crOf : PyData → Int
  | .tuple [cr, _] => ival cr
  | _ => 0
def dsOf : PyData → List Int
  | .tuple [_, .tuple ds] => ds.map ival
  | _ => []
def osOf : PyData → List Nat
  | .tuple ds => ds.map fun d => (ival d).toNat
  | _ => []
def DayOk (cr : Int) (ds : List Int) : Prop := 0 ≤ cr ∧ cr ≤ 1000000000 ∧ ds.length ≤ 10 ∧ ∀ d ∈ ds, 1 ≤ d ∧ d ≤ 1000000
theorem Chk.imp {b : Bool} {A B B' : Prop} (h : Chk b A B) (f : b = true → B → B') : Chk b A B' := ⟨fun e => f e (h.1 e), h.2⟩
theorem isInt_of {x : PyData} {lo hi : Int} (h : isInt x lo hi = true) : ∃ v, x = .int v ∧ lo ≤ v ∧ v ≤ hi := by
  cases x with
  | int v =>
    simp [isInt] at h
    exact ⟨v, rfl, h.1, h.2⟩
  | _ => cases h
theorem isInt_int {v lo hi : Int} (h1 : lo ≤ v) (h2 : v ≤ hi) : isInt (.int v) lo hi = true := by simp [isInt, h1, h2]
theorem ints_all {ns : List Int} {lo hi : Int} : ((ns.map PyData.int).all fun d => isInt d lo hi) = true ↔ ∀ n ∈ ns, lo ≤ n ∧ n ≤ hi := by
  simp [List.all_eq_true, isInt]
theorem ival_ints (ns : List Int) : (ns.map PyData.int).map ival = ns := by
  rw [List.map_map, show (ival ∘ PyData.int) = id from rfl, List.map_id]
theorem isDay_of {x : PyData} (h : isDay x = true) : ∃ cr ds, x = dayD cr ds ∧ DayOk cr ds := by
  cases hx : isTup x with
  | false => cases x <;> first | (cases h; done) | (cases hx; done)
  | true =>
    obtain ⟨es, rfl⟩ := isTup_of hx
    by_cases hl : es.length = 2
    · obtain ⟨d0, d1, rfl⟩ := len2 hl
      cases h1 : isTup d1 with
      | false => rw [isDay2, h1, Bool.and_false] at h; cases h
      | true =>
        obtain ⟨fs, rfl⟩ := isTup_of h1
        rw [isDay3, Bool.and_eq_true, Bool.and_eq_true] at h
        obtain ⟨⟨h1, h2⟩, h3⟩ := h
        obtain ⟨cr, rfl, c1, c2⟩ := isInt_of h1
        obtain ⟨ns, rfl⟩ := ints_of h3
        exact ⟨cr, ns, rfl, c1, c2, by simpa using h2, ints_all.mp h3⟩
    · rw [isDay0 hl] at h; cases h
theorem isDay_dayD {cr : Int} {ds : List Int} (h : DayOk cr ds) : isDay (dayD cr ds) = true := by
  rw [isDay3, isInt_int h.1 h.2.1, ints_all.mpr h.2.2.2]
  simp [h.2.2.1]
theorem dsOf_dayD (cr : Int) (ds : List Int) : dsOf (dayD cr ds) = ds := by
  show (ds.map PyData.int).map ival = ds
  rw [List.map_map, show (ival ∘ PyData.int) = id from rfl, List.map_id]
theorem crOf_dayD (cr : Int) (ds : List Int) : crOf (dayD cr ds) = cr := rfl
theorem osOf_ordD (os : List Nat) : osOf (ordD os) = os := by
  show (os.map natD).map (fun d => (ival d).toNat) = os
  rw [List.map_map]
  conv => rhs; rw [← List.map_id os]
  exact List.map_congr_left fun i _ => by simp [natD, ival]
theorem isort_perm (ns : List Int) : (isort ns).Perm ns := List.mergeSort_perm ns _
theorem isort_sorted (ns : List Int) : (isort ns).Pairwise (fun a b => a ≤ b) := by
  have := List.pairwise_mergeSort (le := fun a b : Int => decide (a ≤ b)) (fun a b c h1 h2 => by simp at *; omega) (fun a b => by simp; omega) ns
  exact this.imp fun h => by simpa using h
theorem sorted_eq : ∀ {xs ys : List Int}, xs.Perm ys → xs.Pairwise (fun a b => a ≤ b) → ys.Pairwise (fun a b => a ≤ b) → xs = ys := fun p h1 h2 => p.eq_of_pairwise (fun a b _ _ h h' => Int.le_antisymm h h') h1 h2
theorem rangeI_sorted (n : Nat) : (rangeI n).Pairwise (fun a b => a ≤ b) := by
  unfold rangeI
  rw [List.pairwise_map]
  exact List.pairwise_lt_range.imp fun h => by omega
theorem isort_iff {ns : List Int} {n : Nat} : isort ns = rangeI n ↔ ns.Perm (rangeI n) :=
  ⟨fun h => h ▸ (isort_perm ns).symm, fun h => sorted_eq ((isort_perm ns).trans h) (isort_sorted ns) (rangeI_sorted n)⟩
/-- an order of n debits -/
def OrdOk (n : Nat) (os : List Nat) : Prop := os.Perm (List.range n)
theorem OrdOk.lt {n : Nat} {os : List Nat} (h : OrdOk n os) : ∀ i ∈ os, i < n := fun i hi => List.mem_range.mp (h.mem_iff.mp hi)
theorem OrdOk.len {n : Nat} {os : List Nat} (h : OrdOk n os) : os.length = n := by
  have := h.length_eq
  rwa [List.length_range] at this
theorem natD_map (os : List Nat) : os.map natD = (os.map fun i : Nat => (i : Int)).map .int := by rw [List.map_map]; rfl
theorem isOrder_ordD {n : Nat} {os : List Nat} (hn : n ≤ 11) (h : OrdOk n os) : isOrder n (ordD os) = true := by
  show ((os.map natD).all (fun d => isInt d 0 10) && decide (isort ((os.map natD).map ival) = rangeI n)) = true
  rw [natD_map, ival_ints, Bool.and_eq_true]
  refine ⟨ints_all.mpr fun i hi => ?_, decide_eq_true (isort_iff.mpr (h.map _))⟩
  obtain ⟨j, hj, rfl⟩ := List.mem_map.mp hi
  have := h.lt j hj
  omega
theorem isOrder_of {n : Nat} {x : PyData} (h : isOrder n x = true) : ∃ os, x = ordD os ∧ OrdOk n os := by
  cases hx : isTup x with
  | false => cases x <;> first | (cases h; done) | (cases hx; done)
  | true =>
    obtain ⟨es, rfl⟩ := isTup_of hx
    rw [isOrder1, Bool.and_eq_true] at h
    obtain ⟨ns, rfl⟩ := ints_of h.1
    have h2 := of_decide_eq_true h.2
    rw [List.map_map, show (ival ∘ PyData.int) = id from rfl, List.map_id, isort_iff] at h2
    have h3 := ints_all.mp h.1
    refine ⟨ns.map Int.toNat, ?_, ?_⟩
    · congr 1
      rw [List.map_map]
      exact List.map_congr_left fun i hi => by
        have := h3 i hi
        show PyData.int i = .int ((i.toNat : Nat) : Int)
        rw [Int.toNat_of_nonneg this.1]
    · have := h2.map Int.toNat
      unfold rangeI at this
      rw [List.map_map, show (Int.toNat ∘ fun i : Nat => (i : Int)) = id from rfl, List.map_id] at this
      exact this
theorem at_ints {ds : List Int} {i : Nat} (h : i < ds.length) : atD (ds.map .int) (i : Int) = some (.int (ds.getD i 0)) := by
  refine atD_nat ?_
  rw [List.getElem?_map, List.getElem?_eq_getElem h, List.getD_eq_getElem?_getD, List.getElem?_eq_getElem h]
  rfl
/-- the charged debits of an order -/
def chStep (ds : List Int) (b : Int × List Nat) (i : Nat) : Int × List Nat := (b.1 - ds.getD i 0, if b.1 - ds.getD i 0 < 0 then b.2 ++ [i] else b.2)
def chargedOf (r : Int) (ds : List Int) (os : List Nat) : List Nat := (os.foldl (chStep ds) (r, [])).2
theorem ch_len (ds : List Int) : ∀ (os : List Nat) (b : Int × List Nat), (os.foldl (chStep ds) b).2.length ≤ b.2.length + os.length
  | [], b => by simp
  | i :: os, b => by
    rw [List.foldl_cons]
    refine Nat.le_trans (ch_len ds os _) ?_
    unfold chStep
    dsimp only
    split
    · simp; omega
    · simp
def isTerms : PyData → Bool
  | .tuple [l, f, c] => isInt l (0 - 1000000) 1000000 && (isInt f 0 100000 && (isNon c || isInt c 0 10))
  | _ => false
theorem isTerms3 (l f c : PyData) : isTerms (.tuple [l, f, c]) = (isInt l (0 - 1000000) 1000000 && (isInt f 0 100000 && (isNon c || isInt c 0 10))) := rfl
theorem len3 {α : Type} {l : List α} (h : l.length = 3) : ∃ a b c, l = [a, b, c] := by
  match l, h with
  | [a, b, c], _ => exact ⟨a, b, c, rfl⟩
theorem isTerms0 {ds : List PyData} (h : ¬ ds.length = 3) : isTerms (.tuple ds) = false := by
  match ds, h with
  | [], _ => rfl
  | [a], _ => rfl
  | [a, b], _ => rfl
  | [a, b, c], h => exact absurd rfl h
  | _ :: _ :: _ :: _ :: _, _ => simp [isTerms]
def capped : PyData → Int → Int
  | .int k, n => min n k
  | _, n => n
def CapOk : PyData → Prop
  | .none => True
  | .int k => 0 ≤ k ∧ k ≤ 10
  | _ => False
def TermsOk (l f : Int) (c : PyData) : Prop := -1000000 ≤ l ∧ l ≤ 1000000 ∧ 0 ≤ f ∧ f ≤ 100000 ∧ CapOk c
theorem isTerms_of {x : PyData} (h : isTerms x = true) : ∃ l f c, x = .tuple [.int l, .int f, c] ∧ TermsOk l f c := by
  cases hx : isTup x with
  | false => cases x <;> first | (cases h; done) | (cases hx; done)
  | true =>
    obtain ⟨es, rfl⟩ := isTup_of hx
    by_cases hl : es.length = 3
    · obtain ⟨l, f, c, rfl⟩ := len3 hl
      simp only [isTerms, Bool.and_eq_true, Bool.or_eq_true] at h
      obtain ⟨l, rfl, l1, l2⟩ := isInt_of h.1
      obtain ⟨f, rfl, f1, f2⟩ := isInt_of h.2.1
      refine ⟨l, f, c, rfl, by omega, l2, f1, f2, ?_⟩
      rcases h.2.2 with h | h
      · cases c <;> first | exact trivial | cases h
      · obtain ⟨k, rfl, k1, k2⟩ := isInt_of h
        exact ⟨k1, k2⟩
    · rw [isTerms0 hl] at h; cases h
theorem isTerms_terms {l f : Int} {c : PyData} (h : TermsOk l f c) : isTerms (.tuple [.int l, .int f, c]) = true := by
  obtain ⟨h1, h2, h3, h4, h5⟩ := h
  simp only [isTerms, Bool.and_eq_true, Bool.or_eq_true]
  refine ⟨isInt_int (by omega) h2, isInt_int h3 h4, ?_⟩
  cases c <;> first | exact .inl rfl | exact .inr (isInt_int h5.1 h5.2) | exact h5.elim
theorem capped_bd {c : PyData} {n : Int} (h : CapOk c) (h0 : 0 ≤ n) : 0 ≤ capped c n ∧ capped c n ≤ n := by
  cases c <;> simp only [capped] <;> first | omega | (obtain ⟨h1, h2⟩ := h; omega)
theorem small_mul {i j : Int} (h1 : -1000000000000 ≤ i) (h2 : i ≤ 1000000000000) (h3 : -1000000000000 ≤ j) (h4 : j ≤ 1000000000000) : CMulW i j :=
  wide_mul (a := 64) (b := 64) (by omega) (by omega) (by decide) (by decide) (by decide)
theorem mul_ok {i j : Int} (a b : Nat) (h1 : i.natAbs < 2 ^ a) (h2 : j.natAbs < 2 ^ b) (h : a + b ≤ 1000000 := by decide) (ha : 0 < a := by decide) (hb : 0 < b := by decide) : CMulW i j := wide_mul h1 h2 ha hb h
theorem pow_ok {i j : Int} (h : 0 ≤ j ∧ j ≤ 1000000 ∧ i.natAbs < 2 ^ 64 := by decide) : CPow i j := h
theorem natD_perm_insert {n : Nat} {os : List Nat} (h : OrdOk n os) (i : Nat) : OrdOk (n + 1) (os.take i ++ [n] ++ os.drop i) := by
  unfold OrdOk at *
  rw [List.range_succ]
  refine List.Perm.trans ?_ (h.append_right [n])
  have : (os.take i ++ [n] ++ os.drop i).Perm (os.take i ++ os.drop i ++ [n]) := by
    rw [List.append_assoc, List.append_assoc]
    exact List.Perm.append_left _ List.perm_append_comm
  rwa [List.take_append_drop] at this
theorem bag_prime {y : Int} (h1 : 1 ≤ y) (h2 : y < 2147483647) : ¬ y * 48271 % 2147483647 = 0 := by
  intro h
  obtain ⟨k, hk⟩ : ∃ k, y = 2147483647 * k := ⟨1899818559 * (y * 48271 / 2147483647) - 42704 * y, by omega⟩
  omega
theorem sum_bd {ds : List Int} (h : ∀ d ∈ ds, 1 ≤ d ∧ d ≤ 1000000) : 0 ≤ ds.sum ∧ ds.sum ≤ 1000000 * (ds.length : Int) := by
  induction ds with
  | nil => exact ⟨Int.le_refl _, by decide⟩
  | cons d ds ih =>
    obtain ⟨a, b⟩ := ih fun d hd => h d (List.mem_cons_of_mem _ hd)
    have := h d List.mem_cons_self
    rw [List.sum_cons, List.length_cons]
    omega
theorem app_get {M r : List MO} {i : Nat} {m : MO} (h : M[i]? = some m) : (M ++ r)[i]? = some m := by
  rw [List.getElem?_append_left (List.getElem?_eq_some_iff.mp h).1]; exact h
/-- what a drawn setting keeps -/
def SetOk (most wm b cr l : Int) (ds : List Int) : Prop := 0 ≤ cr ∧ cr ≤ wm ∧ (ds.length : Int) ≤ most ∧ (∀ d ∈ ds, 1 ≤ d ∧ d ≤ wm) ∧ -50 ≤ l ∧ l ≤ 30 ∧ -100 ≤ b + cr - l ∧ b + cr - l ≤ ds.sum + 100
theorem SetOk.day {most wm b cr l : Int} {ds : List Int} (h : SetOk most wm b cr l ds) (hm : most ≤ 10) (hw : wm ≤ 1000000) : DayOk cr ds :=
  ⟨h.1, by have := h.2.1; omega, by have := h.2.2.1; omega, fun d hd => ⟨(h.2.2.2.1 d hd).1, by have := (h.2.2.2.1 d hd).2; omega⟩⟩
theorem SetOk.sum {most wm b cr l : Int} {ds : List Int} (h : SetOk most wm b cr l ds) (hw : wm ≤ 1000000) : 0 ≤ ds.sum ∧ ds.sum ≤ 1000000 * (ds.length : Int) := sum_bd fun d hd => ⟨(h.2.2.2.1 d hd).1, by have := (h.2.2.2.1 d hd).2; omega⟩
theorem SetOk.bal {most wm b cr l : Int} {ds : List Int} (h : SetOk most wm b cr l ds) (hm : most ≤ 10) (hw : wm ≤ 1000000) : isBal (.int b) = true := by
  have := h.sum hw
  obtain ⟨a1, a2, a3, a4, a5, a6, a7, a8⟩ := h
  exact isInt_int (by omega) (by omega)
theorem SetOk.lim {most wm b cr l : Int} {ds : List Int} (h : SetOk most wm b cr l ds) : isLim (.int l) = true := by
  obtain ⟨a1, a2, a3, a4, a5, a6, a7, a8⟩ := h
  exact isInt_int (by omega) (by omega)
theorem Chk.yes {b : Bool} {A B : Prop} (h : b = true) (x : B) : Chk b A B := ⟨fun _ => x, fun h' => (by rw [h] at h'; cases h')⟩
theorem Chk.no {b : Bool} {A B : Prop} (h : b = false) (x : A) : Chk b A B := ⟨fun h' => (by rw [h] at h'; cases h'), fun _ => x⟩
theorem app_last2 {M : List MO} {x y : MO} : (M ++ [x] ++ [y])[M.length + 1]? = some y := by simp
theorem app_last {M : List MO} {x : MO} : (M ++ [x])[M.length]? = some x := by simp
/-- orders of all days -/
def OsOk (days : List (Int × List Int)) (os : List (List Nat)) : Prop := os.length = days.length ∧ ∀ (i : Nat) p o, days[i]? = some p → os[i]? = some o → OrdOk p.2.length o
/-- the charged debits, by recursion -/
def chg (ds : List Int) : Int → List Nat → List Nat
  | _, [] => []
  | r, i :: os => if r - ds.getD i 0 < 0 then i :: chg ds (r - ds.getD i 0) os else chg ds (r - ds.getD i 0) os
theorem chg_cons (ds : List Int) (r : Int) (i : Nat) (os : List Nat) : chg ds r (i :: os) = if r - ds.getD i 0 < 0 then i :: chg ds (r - ds.getD i 0) os else chg ds (r - ds.getD i 0) os := rfl
theorem ch_chg (ds : List Int) : ∀ (os : List Nat) (r : Int) (acc : List Nat), (os.foldl (chStep ds) (r, acc)).2 = acc ++ chg ds r os
  | [], r, acc => by simp [chg]
  | i :: os, r, acc => by
    have e : chStep ds (r, acc) i = (r - ds.getD i 0, if r - ds.getD i 0 < 0 then acc ++ [i] else acc) := rfl
    rw [List.foldl_cons, e, ch_chg ds os]
    by_cases h : r - ds.getD i 0 < 0
    · rw [if_pos h, chg, if_pos h, List.append_assoc]; rfl
    · rw [if_neg h, chg, if_neg h]
theorem chargedOf_eq (r : Int) (ds : List Int) (os : List Nat) : chargedOf r ds os = chg ds r os := by
  unfold chargedOf
  rw [ch_chg, List.nil_append]
theorem chg_all {ds : List Int} : ∀ {os : List Nat} {r : Int}, r < 0 → (∀ i ∈ os, 0 < ds.getD i 0) → chg ds r os = os
  | [], _, _, _ => rfl
  | i :: os, r, h, hp => by
    have := hp i List.mem_cons_self
    unfold chg
    rw [if_pos (by omega), chg_all (by omega) fun j hj => hp j (List.mem_cons_of_mem _ hj)]
theorem chg_le {ds : List Int} : ∀ {os : List Nat} {r : Int}, (chg ds r os).length ≤ os.length
  | [], _ => Nat.le_refl _
  | i :: os, r => by
    unfold chg
    split
    · rw [List.length_cons, List.length_cons]; exact Nat.succ_le_succ chg_le
    · rw [List.length_cons]; exact Nat.le_succ_of_le chg_le
theorem chg_drop {ds : List Int} : ∀ {os : List Nat} {r : Int}, (∀ i ∈ os, 0 < ds.getD i 0) → chg ds r os = os.drop (os.length - (chg ds r os).length)
  | [], _, _ => rfl
  | i :: os, r, hp => by
    have h0 := hp i List.mem_cons_self
    have hp' : ∀ j ∈ os, 0 < ds.getD j 0 := fun j hj => hp j (List.mem_cons_of_mem _ hj)
    unfold chg
    by_cases h : r - ds.getD i 0 < 0
    · rw [if_pos h, chg_all h hp']
      simp
    · rw [if_neg h]
      have ih := chg_drop (ds := ds) (r := r - ds.getD i 0) hp'
      have hl := chg_le (ds := ds) (os := os) (r := r - ds.getD i 0)
      rw [List.length_cons, show os.length + 1 - (chg ds (r - ds.getD i 0) os).length = (os.length - (chg ds (r - ds.getD i 0) os).length) + 1 by omega, List.drop_succ_cons]
      exact ih
theorem cutD_from {ds : List PyData} {k : Nat} (h : k ≤ ds.length) : DL.cutD ds (some (k : Int)) none = ds.drop k := by
  unfold DL.cutD
  rw [HT.sIx_nat, HT.sIx_none, Nat.min_eq_left h]
  rw [List.take_of_length_le]
  rw [List.length_drop]
  exact Nat.le_refl _
theorem pos_getD {ds : List Int} (h : ∀ d ∈ ds, 1 ≤ d) {os : List Nat} (ho : ∀ i ∈ os, i < ds.length) : ∀ i ∈ os, 0 < ds.getD i 0 := fun i hi => by
  have hl := ho i hi
  rw [List.getD_eq_getElem?_getD, List.getElem?_eq_getElem hl]
  have := h _ (List.getElem_mem hl)
  show 0 < ds[i]
  omega
theorem eqv_intsT (xs ys : List Int) : PyData.eqv (.tuple (xs.map .int)) (.tuple (ys.map .int)) = decide (xs = ys) := by
  rw [PyData.eqv, eqvAll_ints]
theorem eqv_intsL' (xs ys : List Int) : PyData.eqv (.list (xs.map .int)) (.list (ys.map .int)) = decide (xs = ys) := by
  rw [PyData.eqv, eqvAll_ints]
theorem shaped_nats (os : List Nat) : SeqAt.shaped (.list (os.map natD)) = true := by rw [natD_map]; exact shaped_ints _
theorem shaped_natsT (os : List Nat) : SeqAt.shaped (.tuple (os.map natD)) = true := by rw [natD_map]; exact shaped_intsT _
theorem eqv_natsL (xs : List Nat) : PyData.eqv (.list (xs.map natD)) (.list (xs.map natD)) = true := by rw [natD_map, eqv_intsL']; simp
theorem eqv_natsT (xs : List Nat) : PyData.eqv (.tuple (xs.map natD)) (.tuple (xs.map natD)) = true := by rw [natD_map, eqv_intsT]; simp
theorem isOrder_len {n : Nat} {x : PyData} (h : isOrder n x = true) : seqLen x = n := by
  obtain ⟨os, rfl, ho⟩ := isOrder_of h
  show (os.map natD).length = n
  rw [List.length_map, ho.len]
theorem isOrder_no {n : Nat} {x : PyData} (h : seqLen x ≠ n) : isOrder n x = false := by
  cases e : isOrder n x with
  | false => rfl
  | true => exact absurd (isOrder_len e) h
theorem isOrder_00 (n : Nat) : isOrder n (.tuple [.int 0, .int 0]) = false := by
  cases e : isOrder n (.tuple [.int 0, .int 0]) with
  | false => rfl
  | true =>
    obtain ⟨os, h, ho⟩ := isOrder_of e
    have hl := ho.len
    cases os with
    | nil => cases h
    | cons i os =>
      cases os with
      | nil => cases h
      | cons j os =>
        cases os with
        | cons k os => cases h
        | nil =>
          simp [natD] at h
          obtain ⟨h1, h2⟩ := h
          have e1 : i = 0 := by omega
          have e2 : j = 0 := by omega
          subst e1; subst e2
          have := ho.nodup_iff.mpr List.nodup_range
          simp at this
/-! texts -/
theorem eqv_str (a b : Str) : PyData.eqv (.str a) (.str b) = decide (a = b) := by
  rw [PyData.eqv]
  by_cases h : a = b
  · subst h; simp
  · rw [decide_eq_false h]
    cases e : (a == b) with
    | false => rfl
    | true => exact absurd (eq_of_beq e) h
/-! k19: an account: balance, posted debits, charged ones; the last state stands at the end -/
abbrev St3 := Int × List Int × Nat
abbrev acc (C : Addr) (tm : PyData) (b : PyData ⊕ Nat) : Sl := .ob C "terms" "past" (.inl tm) b
def okI (b tm : PyData) : Prop := isBal b = true ∧ isTerms tm = true
def pastI (b : PyData) : List PyData := [.tuple [b, .tuple [], .int 0]]
def stD (s : St3) : PyData := .tuple [.int s.1, .tuple (s.2.1.map .int), .int (s.2.2 : Int)]
def soD (s : St3) : PyData := .tuple [.int s.1, .int (s.2.1.length : Int), .int (s.2.2 : Int)]
theorem ixN_last (n : Nat) : ixN (n + 1) (-1) = some n := by
  unfold ixN
  rw [if_neg (by omega), if_pos (by omega)]
  congr 1; omega
theorem atD_last (ds : List PyData) (d : PyData) : atD (ds ++ [d]) (-1) = some d := by
  unfold atD
  rw [List.length_append, show [d].length = 1 from rfl, ixN_last]
  show (ds ++ [d])[ds.length]? = _
  simp
theorem atD_lastM (f : St3 → PyData) (L0 : List St3) (s : St3) : atD ((L0 ++ [s]).map f) (-1) = some (f s) := by
  rw [List.map_append]
  exact atD_last _ _
def kW : Nat → Str
  | 0 => "credit"
  | 1 => "debit"
  | 2 => "end"
  | _ => "undo"
def stC (L0 : List St3) (s : St3) (v : PyData) : PyData × List St3 := if isInt v 1 1000000 = false then (.str "amount", L0 ++ [s]) else if s.2.1 ≠ [] then (.str "late", L0 ++ [s]) else (.none, L0 ++ [s] ++ [(s.1 + ival v, s.2.1, s.2.2)])
def stB (l : Int) (L0 : List St3) (s : St3) (v : PyData) : PyData × List St3 := if isInt v 1 1000000 = false then (.str "amount", L0 ++ [s]) else (.bool (decide (s.1 - ival v < l)), L0 ++ [s] ++ [(s.1 - ival v, s.2.1 ++ [ival v], s.2.2 + (if s.1 - ival v < l then 1 else 0))])
def stE (f : Int) (c : PyData) (L0 : List St3) (s : St3) : PyData × List St3 := (.int (f * capped c s.2.2), L0 ++ [s] ++ [(s.1 - f * capped c s.2.2, [], 0)])
def stU (L0 : List St3) (s : St3) : PyData × List St3 := if L0 = [] then (.str "undo", L0 ++ [s]) else (.none, L0)
def stepA (l f : Int) (c : PyData) (L0 : List St3) (s : St3) (k : Nat) (v : PyData) : PyData × List St3 :=
  match k with
  | 0 => stC L0 s v
  | 1 => stB l L0 s v
  | 2 => stE f c L0 s
  | _ => stU L0 s
section
variable {l f : Int} {c : PyData} {L0 : List St3} {s : St3} {v : PyData}
theorem step0_bad (h : isInt v 1 1000000 = false) : stepA l f c L0 s 0 v = (.str "amount", L0 ++ [s]) := by show stC L0 s v = _; unfold stC; rw [if_pos h]
theorem step0_late (h : isInt v 1 1000000 = true) (hp : s.2.1 ≠ []) : stepA l f c L0 s 0 v = (.str "late", L0 ++ [s]) := by show stC L0 s v = _; unfold stC; rw [if_neg (by rw [h]; exact fun z => nomatch z), if_pos hp]
theorem step0_ok (h : isInt v 1 1000000 = true) (hp : s.2.1 = []) : stepA l f c L0 s 0 v = (.none, L0 ++ [s] ++ [(s.1 + ival v, s.2.1, s.2.2)]) := by show stC L0 s v = _; unfold stC; rw [if_neg (by rw [h]; exact fun z => nomatch z), if_neg (fun z => z hp)]
theorem step1_bad (h : isInt v 1 1000000 = false) : stepA l f c L0 s 1 v = (.str "amount", L0 ++ [s]) := by show stB l L0 s v = _; unfold stB; rw [if_pos h]
theorem step1_ok (h : isInt v 1 1000000 = true) : stepA l f c L0 s 1 v = (.bool (decide (s.1 - ival v < l)), L0 ++ [s] ++ [(s.1 - ival v, s.2.1 ++ [ival v], s.2.2 + (if s.1 - ival v < l then 1 else 0))]) := by show stB l L0 s v = _; unfold stB; rw [if_neg (by rw [h]; exact fun z => nomatch z)]
theorem step2_ok : stepA l f c L0 s 2 v = (.int (f * capped c s.2.2), L0 ++ [s] ++ [(s.1 - f * capped c s.2.2, [], 0)]) := rfl
theorem step3_nil : stepA l f c [] s 3 v = (.str "undo", [s]) := rfl
theorem step3_ok (h : L0 ≠ []) : stepA l f c L0 s 3 v = (.none, L0) := by show stU L0 s = _; unfold stU; rw [if_neg h]
end
/-- what is known of all states -/
def GoodL (B : Nat) (L : List St3) (s0 : St3) : Prop := L.length ≤ B + 1 ∧ (∀ s ∈ L, (s.2.1 = [] → s.2.2 = 0) ∧ s.2.2 ≤ s.2.1.length ∧ s.2.1.length ≤ B) ∧ L.head? = some s0
theorem good_app {B : Nat} {L : List St3} {s0 x : St3} (h : GoodL B L s0) (hx : (x.2.1 = [] → x.2.2 = 0) ∧ x.2.2 ≤ x.2.1.length ∧ x.2.1.length ≤ B + 1) : GoodL (B + 1) (L ++ [x]) s0 := by
  obtain ⟨h1, h2, h3⟩ := h
  refine ⟨by rw [List.length_append]; show L.length + 1 ≤ _; omega, fun s hs => ?_, ?_⟩
  · rcases List.mem_append.mp hs with hs | hs
    · have := h2 s hs
      exact ⟨this.1, this.2.1, by omega⟩
    · rw [List.mem_singleton] at hs; subst hs; exact hx
  · cases L with
    | nil => cases h3
    | cons y L => exact h3
theorem good_mono {B : Nat} {L : List St3} {s0 : St3} (h : GoodL B L s0) : GoodL (B + 1) L s0 := ⟨by have := h.1; omega, fun s hs => ⟨(h.2.1 s hs).1, (h.2.1 s hs).2.1, by have := (h.2.1 s hs).2.2; omega⟩, h.2.2⟩
theorem good_pop {B : Nat} {L0 : List St3} {s s0 : St3} (h : GoodL B (L0 ++ [s]) s0) (hn : L0 ≠ []) : GoodL B L0 s0 := by
  obtain ⟨h1, h2, h3⟩ := h
  rw [List.length_append] at h1
  refine ⟨by have : [s].length = 1 := rfl; omega, fun x hx => h2 x (List.mem_append_left _ hx), ?_⟩
  cases L0 with
  | nil => exact absurd rfl hn
  | cons y L => exact h3
theorem good_step {B : Nat} {l f : Int} {c : PyData} {L0 : List St3} {s s0 : St3} {k : Nat} {v : PyData} (h : GoodL B (L0 ++ [s]) s0) : GoodL (B + 1) (stepA l f c L0 s k v).2 s0 := by
  have hs := h.2.1 s (List.mem_append_right _ (by simp))
  match k with
  | 0 =>
    show GoodL (B + 1) (stC L0 s v).2 s0
    unfold stC
    split
    · exact good_mono h
    · split
      · exact good_mono h
      · exact good_app h ⟨hs.1, hs.2.1, by show s.2.1.length ≤ _; omega⟩
  | 1 =>
    show GoodL (B + 1) (stB l L0 s v).2 s0
    unfold stB
    split
    · exact good_mono h
    · refine good_app h ⟨fun z => absurd z (by simp), ?_, ?_⟩
      · show s.2.2 + _ ≤ (s.2.1 ++ [ival v]).length
        rw [List.length_append]
        show s.2.2 + _ ≤ s.2.1.length + 1
        split <;> omega
      · show (s.2.1 ++ [ival v]).length ≤ _
        rw [List.length_append]
        show s.2.1.length + 1 ≤ _
        omega
  | 2 => exact good_app h ⟨fun _ => rfl, Nat.le_refl _, Nat.zero_le _⟩
  | k + 3 =>
    show GoodL (B + 1) (stU L0 s).2 s0
    unfold stU
    split
    · exact good_mono h
    · exact good_mono (good_pop h (by assumption))
theorem good_cut {B : Nat} {L : List St3} {s0 : St3} (h : GoodL B L s0) : ∃ L0 s, L = L0 ++ [s] := by
  cases L with
  | nil => exact absurd h.2.2 (fun z => nomatch z)
  | cons y L => exact ⟨_, _, (List.dropLast_concat_getLast (List.cons_ne_nil y L)).symm⟩
/-- answers -/
def Told (d : PyData) : Prop := SeqAt.shaped d = true ∧ PyData.eqv d d = true
theorem told_step {l f : Int} {c : PyData} {L0 : List St3} {s : St3} {k : Nat} {v : PyData} : Told (stepA l f c L0 s k v).1 := by
  have t1 : Told (.str "amount") := ⟨by decide +kernel, by rw [eqv_str]; exact decide_eq_true rfl⟩
  have t2 : Told (.str "late") := ⟨by decide +kernel, by rw [eqv_str]; exact decide_eq_true rfl⟩
  have t3 : Told (.str "undo") := ⟨by decide +kernel, by rw [eqv_str]; exact decide_eq_true rfl⟩
  have t4 : Told .none := ⟨rfl, rfl⟩
  have t5 : ∀ b, Told (.bool b) := fun b => ⟨rfl, by cases b <;> rfl⟩
  have t6 : ∀ i, Told (.int i) := fun i => ⟨rfl, by simp [PyData.eqv]⟩
  match k with
  | 0 =>
    show Told (stC L0 s v).1
    unfold stC
    split
    · exact t1
    · split
      · exact t2
      · exact t4
  | 1 =>
    show Told (stB l L0 s v).1
    unfold stB
    split
    · exact t1
    · exact t5 _
  | 2 => exact t6 _
  | k + 3 =>
    show Told (stU L0 s).1
    unfold stU
    split
    · exact t3
    · exact t4
theorem eqv_bools (a b : Bool) : PyData.eqv (.bool a) (.bool b) = decide (a = b) := by cases a <;> cases b <;> rfl
theorem eqv_ii (a b : Int) : PyData.eqv (.int a) (.int b) = decide (a = b) := by rw [Bool.eq_iff_iff]; simp [PyData.eqv]
theorem eqv_int2 (a b x y : Int) : PyData.eqv (.tuple [.int a, .int b]) (.tuple [.int x, .int y]) = (decide (a = x) && decide (b = y)) := by
  show PyData.eqv (.tuple ([a, b].map .int)) (.tuple ([x, y].map .int)) = _
  rw [eqv_intsT, Bool.eq_iff_iff]; simp
theorem eqv_int3 (a b d x y z : Int) : PyData.eqv (.tuple [.int a, .int b, .int d]) (.tuple [.int x, .int y, .int z]) = (decide (a = x) && (decide (b = y) && decide (d = z))) := by
  show PyData.eqv (.tuple ([a, b, d].map .int)) (.tuple ([x, y, z].map .int)) = _
  rw [eqv_intsT, Bool.eq_iff_iff]; simp
theorem terms_sh {l f : Int} {c : PyData} (h : TermsOk l f c) : SeqAt.shaped (.tuple [.int l, .int f, c]) = true := by
  have h5 := h.2.2.2.2
  cases c <;> first | rfl | exact h5.elim
theorem terms_rf {l f : Int} {c : PyData} (h : TermsOk l f c) : PyData.eqv (.tuple [.int l, .int f, c]) (.tuple [.int l, .int f, c]) = true := by
  have h5 := h.2.2.2.2
  cases c <;> first | (simp [PyData.eqv, PyData.eqvAll]; done) | exact h5.elim
theorem terms_ne {l f : Int} {c : PyData} : PyData.eqv (.tuple [.int l, .int f, c]) (.tuple [.int l, .int (f + 1), c]) = false := by
  simp only [PyData.eqv, PyData.eqvAll]
  have : (f == f + 1) = false := by simp; omega
  rw [this]; simp
def sameB (s s' : St3) : Bool := decide (s.2.1.length = s'.2.1.length) && (decide (s.1 = s'.1) && decide (s.2.2 = s'.2.2))
def st19 (ns : List Int) (x : List Sl) : List Sl := .d (.list (ns.map .int)) :: x
abbrev lw19 (C : Addr) (ns : List Int) (tm : PyData) (b0 : Int) (x1 x4 x5 x9 x10 x11 x12 x13 x14 x15 : Sl) : List Sl := [.d (.list (ns.map .int)), x1, .d tm, .d (.int b0), x4, x5, acc C tm (.inr 1), acc C tm (.inr 2), .m 3, x9, x10, x11, x12, x13, x14, x15]
theorem good_le {B B' : Nat} {L : List St3} {s0 : St3} (h : GoodL B L s0) (hb : B ≤ B') : GoodL B' L s0 := ⟨by have := h.1; omega, fun s hs => ⟨(h.2.1 s hs).1, (h.2.1 s hs).2.1, by have := (h.2.1 s hs).2.2; omega⟩, h.2.2⟩
theorem good_0 (b0 : Int) : GoodL 0 [(b0, [], 0)] (b0, [], 0) := ⟨Nat.le_refl 1, fun s hs => by rw [List.mem_singleton] at hs; subst hs; exact ⟨fun _ => rfl, Nat.le_refl _, Nat.le_refl _⟩, rfl⟩
theorem eqv_so (s s' : St3) : PyData.eqv (soD s) (soD s') = sameB s s' := by
  unfold soD sameB
  rw [eqv_int3, Bool.eq_iff_iff]
  simp only [Bool.and_eq_true, decide_eq_true_eq]
  omega
theorem atD_head {L : List St3} {s0 : St3} (h : L.head? = some s0) : atD (L.map soD) 0 = some (soD s0) := by
  cases L with
  | nil => cases h
  | cons y L =>
    cases h
    exact atD_nat (j := 0) rfl
theorem set_at {M : List MO} {i j : Nat} {mo mo' : MO} (h : M[j]? = some mo) (hij : i ≠ j) : (M.set i mo')[j]? = some mo := by rw [List.getElem?_set_ne hij]; exact h
theorem set_me {M : List MO} {i : Nat} {mo mo' : MO} (h : M[i]? = some mo) : (M.set i mo')[i]? = some mo' := List.getElem?_set_self (List.getElem?_eq_some_iff.mp h).1
theorem sameB_rf (s : St3) : sameB s s = true := by unfold sameB; simp
section
variable {P : Program} {w : World} {K : PySem.W.Frag} {mg : Str → Option Value} {base : Heap} {T : List NdefX.NTab} {a : Ad}
def W_is_integer (a : Ad) : Wd := fun ρ M Q X => ∃ (x : PyData) (lo hi : Int), ρ = [.d x, .d (.int lo), .d (.int hi)] ∧ M = [] ∧ Q (.d (.bool (isInt x lo hi))) []
theorem ok_is_integer (t : Tx K mg a) : FnOk P w K mg base (L2N.CX P w) 1 a.is_integer a.fd_is_integer ["value", "low", "high"] (spW K T (W_is_integer a)) := by
  refine fn_ok t.F_is_integer sc_is_integer (fun ρ M Q X h => by obtain ⟨_, _, _, rfl, _⟩ := h; rfl) (by decide) fun cdv A outer s H E hr => ⟨_, (pss_one (ps_ret (pe_and (pe_callB call_isi (by rfl) t.m_isinstance (by decide +kernel) (pa_cons (pv 0) (pa_cons (pe_bltn (v := .ty "int") (by rfl) t.m_int (by decide +kernel) rfl) pa_nil))) (pe_and (pe_not (pe_callB call_isi (by rfl) t.m_isinstance (by decide +kernel) (pa_cons (pv 0) (pa_cons (pe_bltn (v := .ty "bool") (by rfl) t.m_bool (by decide +kernel) rfl) pa_nil)))) (pe_one (pe_chain op_le op_le (pv 1) (pv 0) (pv 2))))))), fun ρ M Q X hW => ?_⟩
  obtain ⟨x, lo, hi, rfl, rfl, q⟩ := hW
  refine ex_ret (ev_dv (d := .bool (isInt x lo hi)) ?_ q)
  refine Dv.cast (d := .bool (isI x && (!isB x && isInt x lo hi))) ?_ (by cases x <;> simp [isInt, isI, isB])
  refine dv_and (dv_isi (dv_var rfl) (kit_int x)) fun h1 => dv_and (dv_not (dv_isi (dv_var rfl) (kit_bool x))) fun h2 => ?_
  cases x with
  | int v => exact dv_chain (dv_var rfl) (dv_var rfl) fun _ => dv_var rfl
  | bool v => cases h2
  | _ => cases h1

def W_require_balance (a : Ad) : Wd := fun ρ M Q X => ∃ x : PyData, ρ = [.d x] ∧ M = [] ∧ (isBal x = true → Q (.d .none) []) ∧ (isBal x = false → X a.InvalidBalance [])
theorem ok_require_balance (t : Tx K mg a) : FnOk P w K mg base (L2N.CX P w) 2 a.require_balance a.fd_require_balance ["balance"] (spW K T (W_require_balance a)) := by
  refine fn_ok t.F_require_balance sc_require_balance (fun ρ M Q X h => by obtain ⟨_, rfl, _⟩ := h; rfl) (by decide) fun cdv A outer s H E hr => ⟨_, (pss_one (ps_if (pt_not (pt_val (pe_call (ok_is_integer (T := T) t) (hr.mono (by decide)) (by rfl) t.g_is_integer t.F_is_integer.kp t.b_is_integer .nil passN (pa_cons (pv 0) (pa_cons (pe_op op_sub pe_int (pe_glob (v := .int 1000000000) rfl t.c_BALANCE.choose_spec ⟨_, rfl⟩)) (pa_cons (pe_glob (v := .int 1000000000) rfl t.c_BALANCE.choose_spec ⟨_, rfl⟩) pa_nil)))))) (pss_one (L2N.ps_raise rfl (L2N.takes_of rfl rfl rfl rfl) (L2N.pmk_own PySem.F.excBase_ValueError t.x_InvalidBalance t.g_InvalidBalance t.k_InvalidBalance (raises_own t.e_InvalidBalance t.y_InvalidBalance) (by rfl)))) pss_nil)), fun ρ M Q X hW => ?_⟩
  obtain ⟨x, rfl, rfl, q1, q2⟩ := hW
  exact ex_ifd (dt_not (dt_B (cv (fun Q q => ⟨_, _, _, rfl, rfl, q⟩) (da_cons (dv_var rfl) (da_cons (dv_i0 dv_int dv_int) (da_cons dv_int da_nil)))))) (fun h => ex_raise rfl (q2 (not_true h))) (fun h => ex_next (q1 (not_false h)))

def W_is_terms (a : Ad) : Wd := fun ρ M Q X => ∃ x : PyData, ρ = [.d x] ∧ M = [] ∧ Q (.d (.bool (isTerms x))) []
theorem ok_is_terms (t : Tx K mg a) : FnOk P w K mg base (L2N.CX P w) 2 a.is_terms a.fd_is_terms ["value"] (spW K T (W_is_terms a)) := by
  refine fn_ok t.F_is_terms sc_is_terms (fun ρ M Q X h => by obtain ⟨_, rfl, _⟩ := h; rfl) (by decide) fun cdv A outer s H E hr => ⟨_, (pss_cons (ps_if (PW.pt (pw_or (pt_not (pt_val (pe_callB call_isi (by rfl) t.m_isinstance (by decide +kernel) (pa_cons (pv 0) (pa_cons (pe_bltn (v := .ty "tuple") (by rfl) t.m_tuple (by decide +kernel) rfl) pa_nil))))) (pw_or (pt_cmpR (op_neD (hu_units hr)) (pe_callB call_len_seq (by rfl) t.m_len (by decide +kernel) (pa_cons (pv 0) pa_nil)) pe_int (nomark _)) (pw_or1 (pt_not (pt_val (pe_call (ok_is_integer (T := T) t) (hr.mono (by decide)) (by rfl) t.g_is_integer t.F_is_integer.kp t.b_is_integer .nil passN (pa_cons (pe_ix ix_tup (pv 0) pe_int (fun _ _ => rfl)) (pa_cons (pe_op op_sub pe_int (pe_glob (v := .int 1000000) rfl t.c_LIMIT.choose_spec ⟨_, rfl⟩)) (pa_cons (pe_glob (v := .int 1000000) rfl t.c_LIMIT.choose_spec ⟨_, rfl⟩) pa_nil)))))))))) (pss_one (ps_ret pe_bl)) pss_nil)
      (pss_one (ps_ret (pe_and (pe_call (ok_is_integer (T := T) t) (hr.mono (by decide)) (by rfl) t.g_is_integer t.F_is_integer.kp t.b_is_integer .nil passN (pa_cons (pe_ix ix_tup (pv 0) pe_int (fun _ _ => rfl)) (pa_cons pe_int (pa_cons (pe_glob (v := .int 100000) rfl t.c_FEE.choose_spec ⟨_, rfl⟩) pa_nil)))) (pe_one (pe_or (pe_cmpR op_isN (pe_ix ix_tup (pv 0) pe_int (fun _ _ => rfl)) pe_non (nomark _)) (pe_one (pe_call (ok_is_integer (T := T) t) (hr.mono (by decide)) (by rfl) t.g_is_integer t.F_is_integer.kp t.b_is_integer .nil passN (pa_cons (pe_ix ix_tup (pv 0) pe_int (fun _ _ => rfl)) (pa_cons pe_int (pa_cons (pe_glob (v := .int 10) rfl t.c_DEBITS.choose_spec ⟨_, rfl⟩) pa_nil))))))))))), fun ρ M Q X hW => ?_⟩
  obtain ⟨x, rfl, rfl, q⟩ := hW
  cases hx : isTup x with
  | false =>
    refine ex_seq (ex_ifd (b := true) ((dt_or (b := true) (dt_not (dt_B (dv_isi (dv_var rfl) (kit_tuple x)))) (fun h => by rw [hx] at h; cases h)).cast (by rw [hx]; rfl)) (fun _ => ex_ret (ev_dv dv_bl ?_)) (fun h => nomatch h))
    rw [show isTerms x = false by cases x <;> first | rfl | cases hx] at q
    exact q
  | true =>
    obtain ⟨ds, rfl⟩ := isTup_of hx
    by_cases hl : ds.length = 3
    · obtain ⟨d0, d1, d2, rfl⟩ := len3 hl
      refine ex_seq (ex_ifd (b := !isInt d0 (0 - 1000000) 1000000) ((dt_or (dt_not (dt_B (dv_isi (dv_var rfl) (kit_tuple _)))) fun _ => dt_or (dt_test (dv_neD (dv_len (dv_var rfl) rfl) dv_int rfl rfl)) fun _ => dt_not (dt_B (cv (fun Q q => ⟨_, _, _, rfl, rfl, q⟩) (da_cons (dv_ixT (dv_var rfl) dv_int rfl) (da_cons (dv_i0 dv_int dv_int) (da_cons dv_int da_nil)))))).cast (by simp [isTup, PyData.eqv])) (fun h => ex_ret (ev_dv dv_bl ?_)) (fun h => ?_))
      · rw [isTerms3, not_true h, Bool.false_and] at q
        exact q
      have h0 := not_false h
      refine ex_next (ex_ret (ev_dv (Dv.cast (dv_and (cv (fun Q q => ⟨_, _, _, rfl, rfl, q⟩) (da_cons (dv_ixT (dv_var rfl) dv_int rfl) (da_cons dv_int (da_cons dv_int da_nil)))) fun _ => dv_or (dv_isN (dv_ixT (dv_var rfl) dv_int rfl) dv_non) fun _ => cv (fun Q q => ⟨_, _, _, rfl, rfl, q⟩) (da_cons (dv_ixT (dv_var rfl) dv_int rfl) (da_cons dv_int (da_cons dv_int da_nil)))) ?_) q))
      rw [isTerms3, h0]; rfl
    · have hne : (!PyData.eqv (.int (ds.length : Int)) (.int 3)) = true := by simp [PyData.eqv]; omega
      refine ex_seq (ex_ifd (b := true) ((dt_or (dt_not (dt_B (dv_isi (dv_var rfl) (kit_tuple _)))) fun _ => dt_or (b := true) (dt_test (dv_neD (dv_len (dv_var rfl) rfl) dv_int rfl rfl)) (fun h => by rw [hne] at h; cases h)).cast (by rw [hne]; rfl)) (fun _ => ex_ret (ev_dv dv_bl ?_)) (fun h => nomatch h))
      rw [isTerms0 hl] at q
      exact q

def W_require_terms (a : Ad) : Wd := fun ρ M Q X => ∃ x : PyData, ρ = [.d x] ∧ M = [] ∧ (isTerms x = true → Q (.d .none) []) ∧ (isTerms x = false → X a.InvalidTerms [])
theorem ok_require_terms (t : Tx K mg a) : FnOk P w K mg base (L2N.CX P w) 3 a.require_terms a.fd_require_terms ["terms"] (spW K T (W_require_terms a)) := by
  refine fn_ok t.F_require_terms sc_require_terms (fun ρ M Q X h => by obtain ⟨_, rfl, _⟩ := h; rfl) (by decide) fun cdv A outer s H E hr => ⟨_, (pss_one (ps_if (pt_not (pt_val (pe_call (ok_is_terms (T := T) t) (hr.mono (by decide)) (by rfl) t.g_is_terms t.F_is_terms.kp t.b_is_terms .nil passN (pa_cons (pv 0) pa_nil)))) (pss_one (L2N.ps_raise rfl (L2N.takes_of rfl rfl rfl rfl) (L2N.pmk_own PySem.F.excBase_ValueError t.x_InvalidTerms t.g_InvalidTerms t.k_InvalidTerms (raises_own t.e_InvalidTerms t.y_InvalidTerms) (by rfl)))) pss_nil)), fun ρ M Q X hW => ?_⟩
  obtain ⟨x, rfl, rfl, q1, q2⟩ := hW
  exact ex_ifd (dt_not (dt_B (cv (fun Q q => ⟨_, rfl, rfl, q⟩) (da_cons (dv_var rfl) da_nil)))) (fun h => ex_raise rfl (q2 (not_true h))) (fun h => ex_next (q1 (not_false h)))


theorem ok_Account__init__ (t : Tx K mg a) : FnOk P w K mg base (L2N.CX P w) 4 a.Account__init__ a.fd_Account__init__ ["self", "balance", "terms"] (spI K T a.Account "terms" "past" okI pastI) := by
  refine fn_init t.F_Account__init__ sc_Account__init__ rfl rfl t.cls_Account t.na_Account_terms t.na_Account_past (by decide +kernel) fun cdv A outer s H E hr => ⟨_, _, _, (pss_cons (ps_expr (pe_call (ok_require_balance (T := T) t) (hr.mono (by decide)) (by rfl) t.g_require_balance t.F_require_balance.kp t.b_require_balance .nil (L2N.passes_call (L2N.takes_of rfl rfl rfl rfl) (fun _ _ _ _ h => h)) (pa_cons (pv 1) pa_nil)))
      (pss_cons (ps_expr (pe_call (ok_require_terms (T := T) t) (hr.mono (by decide)) (by rfl) t.g_require_terms t.F_require_terms.kp t.b_require_terms .nil (L2N.passes_call (L2N.takes_of rfl rfl rfl rfl) (fun _ _ _ _ h => h)) (pa_cons (pv 2) pa_nil)))
      (pss_cons (ps_fld (pv 0) (pv 2) (by rfl))
      (pss_one (ps_fld (pv 0) (pe_lst (pa_cons (pe_tup (pa_cons (pv 1) (pa_cons (pe_tup pa_nil) (pa_cons pe_int pa_nil)))) pa_nil)) (by rfl)))))), fun b tm x hok => ?_, fun b tm x hok => ?_, fun b tm x hok => ?_⟩
  · exact ex_drop (ev_callX rfl (ea_da (da_cons (dv_var rfl) da_nil) ⟨notm1, _, rfl, rfl, fun _ => ⟨rfl, rfl⟩, fun h => absurd (hok.1.symm.trans h) (by decide)⟩))
  · exact ex_drop (ev_callX rfl (ea_da (da_cons (dv_var rfl) da_nil) ⟨notm1, _, rfl, rfl, fun _ => ⟨rfl, rfl⟩, fun h => absurd (hok.2.symm.trans h) (by decide)⟩))
  · exact dl_lst (da_cons (dv_tup (da_cons (dv_var rfl) (da_cons (dv_tup da_nil) (da_cons dv_int da_nil)))) da_nil)

def W_Account_credit (a : Ad) : Wd := fun ρ M Q X => ∃ (tm v : PyData) (L0 : List St3) (s : St3), ρ = [acc a.Account tm (.inr 0), .d v] ∧ M = [.lst ((L0 ++ [s]).map stD)] ∧ L0.length ≤ 1000 ∧ (isInt v 1 1000000 = false → X a.InvalidAmount M) ∧ (isInt v 1 1000000 = true → s.2.1 ≠ [] → X a.TooLate M) ∧ (isInt v 1 1000000 = true → s.2.1 = [] → Q (.d .none) [.lst ((L0 ++ [s] ++ [(s.1 + ival v, s.2.1, s.2.2)]).map stD)])
theorem ok_Account_credit (t : Tx K mg a) : FnOk P w K mg base (L2N.CX P w) 2 a.Account_credit a.fd_Account_credit ["self", "amount"] (spW K T (W_Account_credit a)) := by
  refine fn_ok t.F_Account_credit sc_Account_credit (fun ρ M Q X h => by obtain ⟨_, _, _, _, rfl, _⟩ := h; rfl) (by decide) fun cdv A outer s H E hr => ⟨_, (pss_cons (ps_asg (pe_ix ix_list (pe_fld (pv 0) (by rfl)) (pe_un un_neg pe_int) (fun _ _ => rfl)) (pg_tup rfl (pgs_cons (pg_name (i := 2) sc_Account_credit.nd rfl (.inl rfl)) (pgs_cons (pg_name (i := 3) sc_Account_credit.nd rfl (.inl rfl)) (pgs_cons (pg_name (i := 4) sc_Account_credit.nd rfl (.inl rfl)) pgs_nil)))))
      (pss_cons (ps_if (pt_not (pt_val (pe_call (ok_is_integer (T := T) t) (hr.mono (by decide)) (by rfl) t.g_is_integer t.F_is_integer.kp t.b_is_integer .nil passN (pa_cons (pv 1) (pa_cons pe_int (pa_cons (pe_glob (v := .int 1000000) rfl t.c_AMOUNT.choose_spec ⟨_, rfl⟩) pa_nil)))))) (pss_one (L2N.ps_raise rfl (L2N.takes_of rfl rfl rfl rfl) (L2N.pmk_own PySem.F.excBase_ValueError t.x_InvalidAmount t.g_InvalidAmount t.k_InvalidAmount (raises_own t.e_InvalidAmount t.y_InvalidAmount) (by rfl)))) pss_nil)
      (pss_cons (ps_if (pt_truth (pv 3) (by intro _; rfl)) (pss_one (L2N.ps_raise rfl (L2N.takes_of rfl rfl rfl rfl) (L2N.pmk_own PySem.F.excBase_ValueError t.x_TooLate t.g_TooLate t.k_TooLate (raises_own t.e_TooLate t.y_TooLate) (by rfl)))) pss_nil)
      (pss_one (ps_expr (pe_bm PySem.F.plainAttrs_list PySem.F.slot_list_append PySem.F.type_list_append mt_append (pe_fld (pv 0) (by rfl)) (pa_cons (pe_tup (pa_cons (pe_op op_add (pv 2) (pv 1)) (pa_cons (pv 3) (pa_cons (pv 4) pa_nil)))) pa_nil))))))), fun ρ M Q X hW => ?_⟩
  obtain ⟨tm, v, L0, s, rfl, rfl, hl, q1, q2, q3⟩ := hW
  obtain ⟨b, ps, n⟩ := s
  refine ex_seq (ex_asgT (js := [2, 3, 4]) (ev_dv (dv_ixE (dm_fld2 rfl t.cls_Account t.na_Account_past) rfl (Dv.cast (dv_un dv_int) (d' := .int (-1)) rfl) (atD_lastM stD L0 _)) ⟨_, rfl, rfl, rfl, ?_⟩))
  show EX _ _ [acc a.Account tm (.inr 0), .d v, .d (.int b), .d (.tuple (ps.map .int)), .d (.int (n : Int))] _ _
  refine ex_seq (ex_ifd (dt_not (dt_B (cv (fun Q' q' => ⟨_, _, _, rfl, rfl, q'⟩) (da_cons (dv_var rfl) (da_cons dv_int (da_cons dv_int da_nil)))))) (fun h => ex_raise rfl (q1 (not_true h))) (fun h => ex_next ?_))
  have hv := not_false h
  obtain ⟨x, rfl, _, _⟩ := isInt_of hv
  refine ex_seq (ex_ifd (dt_truth (dv_var rfl) rfl) (fun h => ex_raise rfl (q2 hv ?_)) (fun h => ex_next ?_))
  · rintro rfl
    cases h
  · have hp : ps = [] := by
      cases ps with
      | nil => rfl
      | cons y l => cases h
    refine ex_appendE (dm_fld2 rfl t.cls_Account t.na_Account_past) rfl (ev_dv (dv_tup (da_cons (dv_i0 (dv_var rfl) (dv_var rfl)) (da_cons (dv_var rfl) (da_cons (dv_var rfl) da_nil)))) ⟨_, _, rfl, rfl, by rw [List.length_map, List.length_append]; show _ + 1 < _; omega, ?_⟩)
    have q := q3 hv hp
    rw [List.map_append] at q
    exact q

def W_Account_debit (a : Ad) : Wd := fun ρ M Q X => ∃ (l f : Int) (c v : PyData) (L0 : List St3) (s : St3), ρ = [acc a.Account (.tuple [.int l, .int f, c]) (.inr 0), .d v] ∧ M = [.lst ((L0 ++ [s]).map stD)] ∧ L0.length ≤ 1000 ∧ s.2.1.length ≤ 1000 ∧ (isInt v 1 1000000 = false → X a.InvalidAmount M) ∧ (isInt v 1 1000000 = true → Q (.d (.bool (decide (s.1 - ival v < l)))) [.lst ((L0 ++ [s] ++ [(s.1 - ival v, s.2.1 ++ [ival v], s.2.2 + (if s.1 - ival v < l then 1 else 0))]).map stD)])
theorem ok_Account_debit (t : Tx K mg a) : FnOk P w K mg base (L2N.CX P w) 2 a.Account_debit a.fd_Account_debit ["self", "amount"] (spW K T (W_Account_debit a)) := by
  refine fn_ok t.F_Account_debit sc_Account_debit (fun ρ M Q X h => by obtain ⟨_, _, _, _, _, _, rfl, _⟩ := h; rfl) (by decide) fun cdv A outer s H E hr => ⟨_, (pss_cons (ps_asg (pe_ix ix_list (pe_fld (pv 0) (by rfl)) (pe_un un_neg pe_int) (fun _ _ => rfl)) (pg_tup rfl (pgs_cons (pg_name (i := 3) sc_Account_debit.nd rfl (.inl rfl)) (pgs_cons (pg_name (i := 4) sc_Account_debit.nd rfl (.inl rfl)) (pgs_cons (pg_name (i := 5) sc_Account_debit.nd rfl (.inl rfl)) pgs_nil)))))
      (pss_cons (ps_if (pt_not (pt_val (pe_call (ok_is_integer (T := T) t) (hr.mono (by decide)) (by rfl) t.g_is_integer t.F_is_integer.kp t.b_is_integer .nil passN (pa_cons (pv 1) (pa_cons pe_int (pa_cons (pe_glob (v := .int 1000000) rfl t.c_AMOUNT.choose_spec ⟨_, rfl⟩) pa_nil)))))) (pss_one (L2N.ps_raise rfl (L2N.takes_of rfl rfl rfl rfl) (L2N.pmk_own PySem.F.excBase_ValueError t.x_InvalidAmount t.g_InvalidAmount t.k_InvalidAmount (raises_own t.e_InvalidAmount t.y_InvalidAmount) (by rfl)))) pss_nil)
      (pss_cons (ps_set (i := 2) sc_Account_debit.nd rfl (.inl rfl) (pe_cmpR op_lt (pe_op op_sub (pv 3) (pv 1)) (pe_ix ix_tup (pe_fld (pv 0) (by rfl)) pe_int (fun _ _ => rfl)) (nomark _)))
      (pss_cons (ps_expr (pe_bm PySem.F.plainAttrs_list PySem.F.slot_list_append PySem.F.type_list_append mt_append (pe_fld (pv 0) (by rfl)) (pa_cons (pe_tup (pa_cons (pe_op op_sub (pv 3) (pv 1)) (pa_cons (pe_op op_catA (pv 4) (pe_tup (pa_cons (pv 1) pa_nil))) (pa_cons (pe_op op_add (pv 5) (pe_callTy call_int1 (by rfl) t.m_int (by decide +kernel) (pa_cons (pv 2) pa_nil))) pa_nil)))) pa_nil)))
      (pss_one (ps_ret (pv 2))))))), fun ρ M Q X hW => ?_⟩
  obtain ⟨l, f, c, v, L0, s, rfl, rfl, hl, hz, q1, q3⟩ := hW
  obtain ⟨b, ps, n⟩ := s
  have hz : ps.length ≤ 1000 := hz
  refine ex_seq (ex_asgT (js := [3, 4, 5]) (ev_dv (dv_ixE (dm_fld2 rfl t.cls_Account t.na_Account_past) rfl (Dv.cast (dv_un dv_int) (d' := .int (-1)) rfl) (atD_lastM stD L0 _)) ⟨_, rfl, rfl, rfl, ?_⟩))
  show EX _ _ [acc a.Account (.tuple [.int l, .int f, c]) (.inr 0), .d v, .un, .d (.int b), .d (.tuple (ps.map .int)), .d (.int (n : Int))] _ _
  refine ex_seq (ex_ifd (dt_not (dt_B (cv (fun Q' q' => ⟨_, _, _, rfl, rfl, q'⟩) (da_cons (dv_var rfl) (da_cons dv_int (da_cons dv_int da_nil)))))) (fun h => ex_raise rfl (q1 (not_true h))) (fun h => ex_next ?_))
  have hv := not_false h
  obtain ⟨x, rfl, _, _⟩ := isInt_of hv
  refine ex_seq (ex_asg (ev_dv (dv_b0 (dv_i0 (dv_var rfl) (dv_var rfl)) (dv_ixT (d := .int l) (dv_fld1 rfl t.cls_Account t.na_Account_terms) dv_int rfl)) ?_))
  refine ex_seq (ex_appendE (dm_fld2 rfl t.cls_Account t.na_Account_past) rfl (ev_dv (dv_tup (da_cons (dv_i0 (dv_var rfl) (dv_var rfl)) (da_cons (dv_catT (dv_var rfl) (dv_tup (da_cons (dv_var rfl) da_nil)) (by rw [List.length_map]; show _ + 1 ≤ _; omega)) (da_cons (dv_i0 (dv_var rfl) (dv_intB (dv_var rfl))) da_nil)))) ⟨_, _, rfl, rfl, by rw [List.length_map, List.length_append]; show _ + 1 < _; omega, ?_⟩))
  refine ex_ret (ev_dv (dv_var rfl) ?_)
  have q := q3 hv
  rw [List.map_append] at q
  have e : stD (b - x, ps ++ [x], n + if b - x < l then 1 else 0) = .tuple [.int (b - x), .tuple (ps.map .int ++ [.int x]), .int ((n : Int) + (if decide (b - x < l) = true then 1 else 0))] := by
    unfold stD
    rw [List.map_append]
    by_cases h : b - x < l <;> simp [h]
  have e2 : ([(b - x, ps ++ [x], n + if b - x < l then 1 else 0)] : List St3).map stD = [.tuple [.int (b - x), .tuple (ps.map .int ++ [.int x]), .int ((n : Int) + (if decide (b - x < l) = true then 1 else 0))]] := by
    rw [List.map_cons, e]; rfl
  have q : Q (.d (.bool (decide (b - x < l)))) [.lst ((L0 ++ [(b, ps, n)]).map stD ++ ([(b - x, ps ++ [x], n + if b - x < l then 1 else 0)] : List St3).map stD)] := q
  rw [e2] at q
  exact q

def W_fees_for (a : Ad) : Wd := fun ρ M Q X => ∃ (l f n : Int) (c : PyData), ρ = [.d (.tuple [.int l, .int f, c]), .d (.int n)] ∧ M = [] ∧ TermsOk l f c ∧ 0 ≤ n ∧ n ≤ 1000 ∧ Q (.d (.int (f * capped c n))) []
theorem ok_fees_for (t : Tx K mg a) : FnOk P w K mg base (L2N.CX P w) 1 a.fees_for a.fd_fees_for ["terms", "number"] (spW K T (W_fees_for a)) := by
  refine fn_ok t.F_fees_for sc_fees_for (fun ρ M Q X h => by obtain ⟨_, _, _, _, rfl, _⟩ := h; rfl) (by decide) fun cdv A outer s H E hr => ⟨_, (pss_cons (ps_asg (pv 0) (pg_tup rfl (pgs_cons (pg_name (i := 2) sc_fees_for.nd rfl (.inl rfl)) (pgs_cons (pg_name (i := 3) sc_fees_for.nd rfl (.inl rfl)) (pgs_cons (pg_name (i := 4) sc_fees_for.nd rfl (.inl rfl)) pgs_nil)))))
      (pss_one (ps_ret (pe_op op_mulW (pv 3) (pe_ifExp (pt_cmpR op_isN (pv 4) pe_non (nomark _)) (pv 1) (pe_callB (call_min2 rfl) (by rfl) t.m_min (by decide +kernel) (pa_cons (pv 1) (pa_cons (pv 4) pa_nil)))))))), fun ρ M Q X hW => ?_⟩
  obtain ⟨l, f, n, c, rfl, rfl, ht, h0, h1, q⟩ := hW
  refine ex_seq (ex_asgT (js := [2, 3, 4]) (ev_dv (dv_var rfl) ⟨_, rfl, rfl, rfl, ?_⟩))
  have hb := capped_bd ht.2.2.2.2 h0
  obtain ⟨t1, t2, t3, t4, t5⟩ := ht
  refine ex_ret (ev_dv (dv_iI (dv_var rfl) (Dv.cast (dv_if (y := .int (capped c n)) (dt_test (dv_isN (dv_var rfl) dv_non)) (fun h => dv_var rfl) (fun h => ?_)) ?_) (small_mul (by omega) (by omega) (by omega) (by omega))) q)
  · cases c with
    | int k => exact dv_min2 (dv_var rfl) (dv_var rfl)
    | none => cases h
    | _ => exact t5.elim
  · cases c <;> first | rfl | exact t5.elim

def W_Account_end_day (a : Ad) : Wd := fun ρ M Q X => ∃ (l f : Int) (c : PyData) (L0 : List St3) (s : St3), ρ = [acc a.Account (.tuple [.int l, .int f, c]) (.inr 0)] ∧ M = [.lst ((L0 ++ [s]).map stD)] ∧ L0.length ≤ 1000 ∧ s.2.2 ≤ 1000 ∧ TermsOk l f c ∧ Q (.d (.int (f * capped c s.2.2))) [.lst ((L0 ++ [s] ++ [(s.1 - f * capped c s.2.2, [], 0)]).map stD)]
theorem ok_Account_end_day (t : Tx K mg a) : FnOk P w K mg base (L2N.CX P w) 2 a.Account_end_day a.fd_Account_end_day ["self"] (spW K T (W_Account_end_day a)) := by
  refine fn_ok t.F_Account_end_day sc_Account_end_day (fun ρ M Q X h => by obtain ⟨_, _, _, _, _, rfl, _⟩ := h; rfl) (by decide) fun cdv A outer s H E hr => ⟨_, (pss_cons (ps_asg (pe_ix ix_list (pe_fld (pv 0) (by rfl)) (pe_un un_neg pe_int) (fun _ _ => rfl)) (pg_tup rfl (pgs_cons (pg_name (i := 2) sc_Account_end_day.nd rfl (.inl rfl)) (pgs_cons (pg_name (i := 3) sc_Account_end_day.nd rfl (.inl rfl)) (pgs_cons (pg_name (i := 4) sc_Account_end_day.nd rfl (.inl rfl)) pgs_nil)))))
      (pss_cons (ps_set (i := 1) sc_Account_end_day.nd rfl (.inl rfl) (pe_call (ok_fees_for (T := T) t) (hr.mono (by decide)) (by rfl) t.g_fees_for t.F_fees_for.kp t.b_fees_for .nil passN (pa_cons (pe_fld (pv 0) (by rfl)) (pa_cons (pv 4) pa_nil))))
      (pss_cons (ps_expr (pe_bm PySem.F.plainAttrs_list PySem.F.slot_list_append PySem.F.type_list_append mt_append (pe_fld (pv 0) (by rfl)) (pa_cons (pe_tup (pa_cons (pe_op op_sub (pv 2) (pv 1)) (pa_cons (pe_tup pa_nil) (pa_cons pe_int pa_nil)))) pa_nil)))
      (pss_one (ps_ret (pv 1)))))), fun ρ M Q X hW => ?_⟩
  obtain ⟨l, f, c, L0, s, rfl, rfl, hl, hz, ht, q⟩ := hW
  obtain ⟨b, ps, n⟩ := s
  have hz : n ≤ 1000 := hz
  refine ex_seq (ex_asgT (js := [2, 3, 4]) (ev_dv (dv_ixE (dm_fld2 rfl t.cls_Account t.na_Account_past) rfl (Dv.cast (dv_un dv_int) (d' := .int (-1)) rfl) (atD_lastM stD L0 _)) ⟨_, rfl, rfl, rfl, ?_⟩))
  show EX _ _ [acc a.Account (.tuple [.int l, .int f, c]) (.inr 0), .un, .d (.int b), .d (.tuple (ps.map .int)), .d (.int (n : Int))] _ _
  refine ex_seq (ex_asg (ev_dv (cv (fun Q' q' => ⟨l, f, (n : Int), c, rfl, rfl, ht, by omega, by omega, q'⟩) (da_cons (dv_fld1 rfl t.cls_Account t.na_Account_terms) (da_cons (dv_var rfl) da_nil))) ?_))
  refine ex_seq (ex_appendE (dm_fld2 rfl t.cls_Account t.na_Account_past) rfl (ev_dv (dv_tup (da_cons (dv_i0 (dv_var rfl) (dv_var rfl)) (da_cons (dv_tup da_nil) (da_cons dv_int da_nil)))) ⟨_, _, rfl, rfl, by rw [List.length_map, List.length_append]; show _ + 1 < _; omega, ?_⟩))
  refine ex_ret (ev_dv (dv_var rfl) ?_)
  rw [List.map_append] at q
  exact q

def W_Account_undo (a : Ad) : Wd := fun ρ M Q X => ∃ (tm : PyData) (L0 : List St3) (s : St3), ρ = [acc a.Account tm (.inr 0)] ∧ M = [.lst ((L0 ++ [s]).map stD)] ∧ (L0 = [] → X a.NothingToUndo M) ∧ (L0 ≠ [] → Q (.d .none) [.lst (L0.map stD)])
theorem ok_Account_undo (t : Tx K mg a) : FnOk P w K mg base (L2N.CX P w) 1 a.Account_undo a.fd_Account_undo ["self"] (spW K T (W_Account_undo a)) := by
  refine fn_ok t.F_Account_undo sc_Account_undo (fun ρ M Q X h => by obtain ⟨_, _, _, rfl, _⟩ := h; rfl) (by decide) fun cdv A outer s H E hr => ⟨_, (pss_cons (ps_if (pt_cmpR (op_eqD (hu_units hr)) (pe_callB call_len_seq (by rfl) t.m_len (by decide +kernel) (pa_cons (pe_fld (pv 0) (by rfl)) pa_nil)) pe_int (nomark _)) (pss_one (L2N.ps_raise rfl (L2N.takes_of rfl rfl rfl rfl) (L2N.pmk_own PySem.F.excBase_ValueError t.x_NothingToUndo t.g_NothingToUndo t.k_NothingToUndo (raises_own t.e_NothingToUndo t.y_NothingToUndo) (by rfl)))) pss_nil)
      (pss_one (ps_expr (pe_bm0 PySem.F.plainAttrs_list PySem.F.slot_list_pop PySem.F.type_list_pop mt_pop (pe_fld (pv 0) (by rfl)))))), fun ρ M Q X hW => ?_⟩
  obtain ⟨tm, L0, s, rfl, rfl, q1, q2⟩ := hW
  refine ex_seq (ex_ifd (b := L0.isEmpty) (Dt.cast (dt_test (dv_eqD (dv_lenE (dm_fld2 rfl t.cls_Account t.na_Account_past) rfl) dv_int rfl rfl)) ?_) (fun h => ex_raise rfl (q1 (List.isEmpty_iff.mp h))) (fun h => ex_next ?_))
  · rw [eqv_ii, List.length_map, List.length_append]
    cases L0 with
    | nil => rfl
    | cons y l => exact decide_eq_false (by rw [List.length_cons]; show ¬ (((_ + 1 + 1 : Nat) : Int) = 1); omega)
  · refine ex_popE (dm_fld2 rfl t.cls_Account t.na_Account_past) rfl (by rw [List.length_map, List.length_append]; exact Nat.succ_pos _) ?_
    have q := q2 (fun z => by rw [z] at h; cases h)
    have e : ((L0 ++ [s]).map stD).dropLast = L0.map stD := by rw [List.map_append]; exact List.dropLast_concat
    show Q (.d .none) [.lst ((L0 ++ [s]).map stD).dropLast]
    rw [e]
    exact q

def W_Account__len__ (a : Ad) : Wd := fun ρ M Q X => ∃ (tm : PyData) (L0 : List St3) (s : St3), ρ = [acc a.Account tm (.inl (.list ((L0 ++ [s]).map stD)))] ∧ M = [] ∧ Q (.d (.int (s.2.1.length : Int))) []
theorem ok_Account__len__ (t : Tx K mg a) : FnOk P w K mg base (L2N.CX P w) 1 a.Account__len__ a.fd_Account__len__ ["self"] (spW K T (W_Account__len__ a)) := by
  refine fn_ok t.F_Account__len__ sc_Account__len__ (fun ρ M Q X h => by obtain ⟨_, _, _, rfl, _⟩ := h; rfl) (by decide) fun cdv A outer s H E hr => ⟨_, (pss_one (ps_ret (pe_callB call_len_seq (by rfl) t.m_len (by decide +kernel) (pa_cons (pe_ix ix_tup (pe_ix ix_list (pe_fld (pv 0) (by rfl)) (pe_un un_neg pe_int) (fun _ _ => rfl)) pe_int (fun _ _ => rfl)) pa_nil)))), fun ρ M Q X hW => ?_⟩
  obtain ⟨tm, L0, s, rfl, rfl, q⟩ := hW
  exact ex_ret (ev_dv (Dv.cast (dv_len (dv_ixT (d := .tuple (s.2.1.map .int)) (dv_ixL (dv_fld2 rfl t.cls_Account t.na_Account_past) (Dv.cast (dv_un dv_int) (d' := .int (-1)) rfl) (atD_lastM stD L0 s)) dv_int rfl) rfl) (d' := .int (s.2.1.length : Int)) (by rw [List.length_map])) q)

def W_Account_balance (a : Ad) : Wd := fun ρ M Q X => ∃ (tm : PyData) (L0 : List St3) (s : St3), ρ = [acc a.Account tm (.inl (.list ((L0 ++ [s]).map stD)))] ∧ M = [] ∧ Q (.d (.int s.1)) []
theorem ok_Account_balance (t : Tx K mg a) : FnOk P w K mg base (L2N.CX P w) 1 a.Account_balance a.fd_Account_balance ["self"] (spW K T (W_Account_balance a)) := by
  refine fn_ok t.F_Account_balance sc_Account_balance (fun ρ M Q X h => by obtain ⟨_, _, _, rfl, _⟩ := h; rfl) (by decide) fun cdv A outer s H E hr => ⟨_, (pss_one (ps_ret (pe_ix ix_tup (pe_ix ix_list (pe_fld (pv 0) (by rfl)) (pe_un un_neg pe_int) (fun _ _ => rfl)) pe_int (fun _ _ => rfl)))), fun ρ M Q X hW => ?_⟩
  obtain ⟨tm, L0, s, rfl, rfl, q⟩ := hW
  exact ex_ret (ev_dv (dv_ixT (d := .int s.1) (dv_ixL (dv_fld2 rfl t.cls_Account t.na_Account_past) (Dv.cast (dv_un dv_int) (d' := .int (-1)) rfl) (atD_lastM stD L0 s)) dv_int rfl) q)

def W_Account_charged (a : Ad) : Wd := fun ρ M Q X => ∃ (tm : PyData) (L0 : List St3) (s : St3), ρ = [acc a.Account tm (.inl (.list ((L0 ++ [s]).map stD)))] ∧ M = [] ∧ Q (.d (.int (s.2.2 : Int))) []
theorem ok_Account_charged (t : Tx K mg a) : FnOk P w K mg base (L2N.CX P w) 1 a.Account_charged a.fd_Account_charged ["self"] (spW K T (W_Account_charged a)) := by
  refine fn_ok t.F_Account_charged sc_Account_charged (fun ρ M Q X h => by obtain ⟨_, _, _, rfl, _⟩ := h; rfl) (by decide) fun cdv A outer s H E hr => ⟨_, (pss_one (ps_ret (pe_ix ix_tup (pe_ix ix_list (pe_fld (pv 0) (by rfl)) (pe_un un_neg pe_int) (fun _ _ => rfl)) pe_int (fun _ _ => rfl)))), fun ρ M Q X hW => ?_⟩
  obtain ⟨tm, L0, s, rfl, rfl, q⟩ := hW
  exact ex_ret (ev_dv (dv_ixT (d := .int (s.2.2 : Int)) (dv_ixL (dv_fld2 rfl t.cls_Account t.na_Account_past) (Dv.cast (dv_un dv_int) (d' := .int (-1)) rfl) (atD_lastM stD L0 s)) dv_int rfl) q)

def W_Account__eq__ (a : Ad) : Wd := fun ρ M Q X => ∃ (tm : PyData) (L0 : List St3) (s : St3) (y : Sl), ρ = [acc a.Account tm (.inl (.list ((L0 ++ [s]).map stD))), y] ∧ M = [] ∧ s.2.1.length ≤ 1000 ∧ ((∃ (tm' : PyData) (L0' : List St3) (s' : St3), y = acc a.Account tm' (.inl (.list ((L0' ++ [s']).map stD))) ∧ s'.2.1.length ≤ 1000 ∧ SeqAt.shaped tm = true ∧ SeqAt.shaped tm' = true ∧ Q (.d (.bool (PyData.eqv tm tm' && sameB s s'))) []) ∨ (∃ ds, y = .d (.tuple ds) ∧ Q (.d (.bool false)) []))
theorem ok_Account__eq__ (t : Tx K mg a) : FnOk P w K mg base (L2N.CX P w) 3 a.Account__eq__ a.fd_Account__eq__ ["self", "other"] (spW K T (W_Account__eq__ a)) := by
  refine fn_ok t.F_Account__eq__ sc_Account__eq__ (fun ρ M Q X h => by obtain ⟨_, _, _, _, rfl, _⟩ := h; rfl) (by decide) fun cdv A outer s H E hr => ⟨_, (pss_cons (ps_if (PW.pt (pw_or (pt_not (pt_val (pe_callB call_isi (by rfl) t.m_isinstance (by decide +kernel) (pa_cons (pv 1) (pa_cons (pe_glob (v := .ref a.Account) rfl t.g_Account rfl) pa_nil))))) (pw_or (pt_cmpR (op_neD (hu_units hr)) (pe_fld (pv 0) (by rfl)) (pe_fld (pv 1) (by rfl)) (nomark _)) (pw_or1 (pt_cmpR (op_neD (hu_units hr)) (pe_callB (call_lenO t.me_Account__len__ (ok_Account__len__ (T := T) t) (hr.mono (j := 2) (by decide)) t.b_Account__len__ passN) (by rfl) t.m_len (by decide +kernel) (pa_cons (pv 0) pa_nil)) (pe_callB (call_lenO t.me_Account__len__ (ok_Account__len__ (T := T) t) (hr.mono (j := 2) (by decide)) t.b_Account__len__ passN) (by rfl) t.m_len (by decide +kernel) (pa_cons (pv 1) pa_nil)) (nomark _)))))) (pss_one (ps_ret pe_bl)) pss_nil)
      (pss_one (ps_ret (pe_cmpR (op_eqD (hu_units hr)) (pe_tup (pa_cons (pe_meth0 (pv 0) t.cls_Account t.me_Account_balance (ok_Account_balance (T := T) t) (hr.mono (j := 1) (by decide)) t.b_Account_balance .nil passN) (pa_cons (pe_meth0 (pv 0) t.cls_Account t.me_Account_charged (ok_Account_charged (T := T) t) (hr.mono (j := 1) (by decide)) t.b_Account_charged .nil passN) pa_nil))) (pe_tup (pa_cons (pe_meth0 (pv 1) t.cls_Account t.me_Account_balance (ok_Account_balance (T := T) t) (hr.mono (j := 1) (by decide)) t.b_Account_balance .nil passN) (pa_cons (pe_meth0 (pv 1) t.cls_Account t.me_Account_charged (ok_Account_charged (T := T) t) (hr.mono (j := 1) (by decide)) t.b_Account_charged .nil passN) pa_nil))) (nomark _))))), fun ρ M Q X hW => ?_⟩
  obtain ⟨tm, L0, s, y, rfl, rfl, hz, hc⟩ := hW
  rcases hc with ⟨tm', L0', s', rfl, hz', h1, h2, q⟩ | ⟨ds, rfl, q⟩
  · have hl : ∀ (i : Nat) (tm : PyData) (L0 : List St3) (s : St3), ([acc a.Account tm (.inl (.list ((L0 ++ [s]).map stD)))] : List Sl)[0]? = some (acc a.Account tm (.inl (.list ((L0 ++ [s]).map stD)))) := fun _ _ _ _ => rfl
    refine ex_seq (ex_ifd (b := !(PyData.eqv tm tm' && decide (s.2.1.length = s'.2.1.length))) (Dt.cast (dt_or (dt_not (dt_B (dv_isO rfl t.cls_Account t.ca_Account t.cn_Account t.ct_Account t.cm_Account t.ck_Account))) fun _ => dt_or (dt_test (dv_neD (dv_fld1 rfl t.cls_Account t.na_Account_terms) (dv_fld1 rfl t.cls_Account t.na_Account_terms) h1 h2)) fun _ => dt_test (dv_neD (dv_lenO (n := s.2.1.length) rfl (.ob rfl rfl) (by omega) (fun Q' q' => ⟨tm, L0, s, rfl, rfl, q'⟩)) (dv_lenO (n := s'.2.1.length) rfl (.ob rfl rfl) (by omega) (fun Q' q' => ⟨tm', L0', s', rfl, rfl, q'⟩)) rfl rfl)) ?_) (fun h => ex_ret (ev_dv dv_bl ?_)) (fun h => ex_next ?_))
    · rw [eqv_ii, show decide ((s.2.1.length : Int) = (s'.2.1.length : Int)) = decide (s.2.1.length = s'.2.1.length) by rw [Bool.eq_iff_iff]; simp only [decide_eq_true_eq]; omega]
      cases PyData.eqv tm tm' <;> simp
    · have h := not_true h
      have e : (PyData.eqv tm tm' && sameB s s') = false := by
        unfold sameB
        rw [← Bool.and_assoc, h, Bool.false_and]
      rw [e] at q
      exact q
    · have h := not_false h
      refine ex_ret (ev_dv (Dv.cast (dv_eqD (dv_tup (da_cons (dv_methR (d := .int s.1) rfl (.ob rfl rfl) rfl (fun Q' q' => ⟨tm, L0, s, rfl, rfl, q'⟩)) (da_cons (dv_methR (d := .int (s.2.2 : Int)) rfl (.ob rfl rfl) rfl (fun Q' q' => ⟨tm, L0, s, rfl, rfl, q'⟩)) da_nil))) (dv_tup (da_cons (dv_methR (d := .int s'.1) rfl (.ob rfl rfl) rfl (fun Q' q' => ⟨tm', L0', s', rfl, rfl, q'⟩)) (da_cons (dv_methR (d := .int (s'.2.2 : Int)) rfl (.ob rfl rfl) rfl (fun Q' q' => ⟨tm', L0', s', rfl, rfl, q'⟩)) da_nil))) rfl rfl) ?_) q)
      rw [eqv_int2]
      unfold sameB
      rw [← Bool.and_assoc, h, Bool.true_and]
      congr 2
      rw [Bool.eq_iff_iff]; simp only [decide_eq_true_eq]; omega
  · refine ex_seq (ex_ifd (b := true) (dt_or (a := true) (b := true) (Dt.cast (dt_not (dt_B (dv_isD (x := .tuple ds) (r := false) (dv_var rfl) t.cf_Account))) rfl) (fun h => by cases h)) (fun _ => ex_ret (ev_dv dv_bl q)) (fun h => nomatch h))

def W__law_bag (a : Ad) : Wd := fun ρ M Q X => ∃ (ns : List Int) (k : Int), ρ = [.d (.list (ns.map .int)), .d (.int k)] ∧ M = [] ∧ 0 ≤ k ∧ k ≤ 1000 ∧ Q (.m 0) [bag]
theorem ok__law_bag (t : Tx K mg a) : FnOk P w K mg base (L2N.CX P w) 1 a._law_bag a.fd__law_bag ["script", "k"] (spW K T (W__law_bag a)) := by
  refine fn_ok t.F__law_bag sc__law_bag (fun ρ M Q X h => by obtain ⟨_, _, rfl, _⟩ := h; rfl) (by decide) fun cdv A outer s H E hr => ⟨_, (pss_cons (ps_set (i := 2) sc__law_bag.nd rfl (.inl rfl) pe_int)
      (pss_cons (ps_if (pt_cmpR op_lt (pv 1) (pe_callB call_len_seq (by rfl) t.m_len (by decide +kernel) (pa_cons (pv 0) pa_nil)) (nomark _)) (pss_one (ps_set (i := 2) sc__law_bag.nd rfl (.inl rfl) (pe_op op_mod (pe_ix ix_list (pv 0) (pv 1) (fun _ _ => rfl)) (pe_op op_pow pe_int pe_int)))) pss_nil)
      (pss_cons (ps_set (i := 3) sc__law_bag.nd rfl (.inl rfl) (pe_op op_add pe_int (pe_op op_mod (pe_op op_add (pe_op op_add (pe_op op_add (pe_op op_mulW (pe_op op_mod (pv 2) pe_int) pe_int) (pe_op op_mulW (pe_op op_mulW pe_int (pv 1)) (pv 1))) (pe_op op_mulW pe_int (pv 1))) pe_int) pe_int)))
      (pss_cons (ps_if (pt_cmpR op_lt (pv 2) (pe_op op_pow pe_int pe_int) (nomark _)) (pss_one (ps_ret (pe_lst (pa_cons pe_int (pa_cons (pv 3) pa_nil))))) pss_nil)
      (pss_one (ps_ret (pe_lst (pa_cons (pv 2) (pa_cons (pv 3) pa_nil))))))))), fun ρ M Q X hW => ?_⟩
  obtain ⟨ns, k, rfl, rfl, k0, k1, q⟩ := hW
  refine ex_seq (ex_asg (ev_dv dv_int ?_))
  refine ex_cut (J := fun ρ' M' => ∃ cell : Int, 0 ≤ cell ∧ cell < 10 ^ 60 ∧ ρ' = [.d (.list (ns.map .int)), .d (.int k), .d (.int cell), .un] ∧ M' = []) ?_ ?_
  case refine_2 =>
    rintro ρ' M' ⟨cell, c0, c1, rfl, rfl⟩
    refine ex_seq (ex_asg (ev_dv (dv_i0 dv_int (dv_iI (dv_i0 (dv_i0 (dv_i0 (dv_iI (dv_iI (dv_var rfl) dv_int (by decide)) dv_int (small_mul (by omega) (by omega) (by omega) (by omega))) (dv_iI (dv_iI dv_int (dv_var rfl) (small_mul (by omega) (by omega) (by omega) (by omega))) (dv_var rfl) (small_mul (by omega) (by omega) (by omega) (by omega)))) (dv_iI dv_int (dv_var rfl) (small_mul (by omega) (by omega) (by omega) (by omega)))) dv_int) dv_int (by decide))) ?_))
    refine ex_seq (ex_ifd (dt_test (dv_b0 (dv_var rfl) (dv_iI dv_int dv_int pow_ok))) (fun h => ?_) (fun h => ?_))
    · exact ex_ret (EV.mw (ev_dl (dl_lst (da_cons dv_int (da_cons (dv_var rfl) da_nil))) ⟨[bag], .cons (bag_wk ⟨by omega, by decide, by omega, by omega⟩) .nil, q⟩))
    · exact ex_next (ex_ret (EV.mw (ev_dl (dl_lst (da_cons (dv_var rfl) (da_cons (dv_var rfl) da_nil))) ⟨[bag], .cons (bag_wk ⟨c0, c1, by omega, by omega⟩) .nil, q⟩)))
  refine (ex_ifd (b := decide (k < (ns.length : Int))) (dt_test (Dv.cast (dv_b0 (dv_var rfl) (dv_len (dv_var rfl) rfl)) (by rw [List.length_map]))) (fun h => ?_) (fun h => ?_))
  · have hk := of_decide_eq_true h
    have hi : k.toNat < ns.length := by omega
    have ek : k = ((k.toNat : Nat) : Int) := by omega
    refine ex_asg (ev_dv (dv_iI (dv_ixL (dv_var rfl) (dv_var rfl) (by rw [ek]; exact at_ints hi)) (dv_iI dv_int dv_int pow_ok) (by decide)) ⟨_, ?_, ?_, rfl, rfl⟩)
    · exact Int.emod_nonneg _ (by decide)
    · exact Int.emod_lt_of_pos _ (by decide)
  · exact ex_next ⟨0, by decide, by decide, rfl, rfl⟩

def W__law_take (a : Ad) : Wd := fun ρ M Q X => ∃ n : Int, ρ = [.m 0, .d (.int n)] ∧ M = [bag] ∧ 1 ≤ n ∧ n ≤ 1000000000000 ∧ ∀ z : Int, 0 ≤ z → z < n → Q (.d (.int z)) [bag]
theorem ok__law_take (t : Tx K mg a) : FnOk P w K mg base (L2N.CX P w) 1 a._law_take a.fd__law_take ["bag", "count"] (spW K T (W__law_take a)) := by
  refine fn_ok t.F__law_take sc__law_take (fun ρ M Q X h => by obtain ⟨_, rfl, _⟩ := h; rfl) (by decide) fun cdv A outer s H E hr => ⟨_, (pss_cons (ps_if (pt_cmpR op_gt (pe_ix ix_list (pv 0) pe_int (fun _ _ => rfl)) pe_int (nomark _)) (pss_cons (ps_set (i := 2) sc__law_take.nd rfl (.inl rfl) (pe_op op_mod (pe_ix ix_list (pv 0) pe_int (fun _ _ => rfl)) (pv 1)))
      (pss_cons (ps_asg (pe_op op_fdivW (pe_ix ix_list (pv 0) pe_int (fun _ _ => rfl)) (pv 1)) (pg_sub (pv 0) pe_int set_list))
      (pss_one (ps_ret (pv 2))))) pss_nil)
      (pss_cons (ps_asg (pe_op op_mod (pe_op op_mulW (pe_ix ix_list (pv 0) pe_int (fun _ _ => rfl)) pe_int) pe_int) (pg_sub (pv 0) pe_int set_list))
      (pss_one (ps_ret (pe_op op_mod (pe_op op_fdivW (pe_op op_mod (pe_op op_mulW (pe_op op_fdivW (pe_ix ix_list (pv 0) pe_int (fun _ _ => rfl)) pe_int) (pe_op op_add (pe_op op_mod (pe_ix ix_list (pv 0) pe_int (fun _ _ => rfl)) pe_int) pe_int)) pe_int) pe_int) (pv 1)))))), fun ρ M Q X hW => ?_⟩
  obtain ⟨n, rfl, rfl, h1, h2, q⟩ := hW
  refine ex_open (j := 0) rfl fun x y hb => ?_
  obtain ⟨b1, b2, b3, b4⟩ := hb
  refine ex_seq (ex_ifd (b := decide (0 < x)) (dt_test (dv_b0 (dv_ixM rfl rfl dv_int rfl) dv_int)) (fun h => ?_) (fun h => ?_))
  · have hx := of_decide_eq_true h
    refine ex_seq (ex_asg (ev_dv (dv_iI (dv_ixM rfl rfl dv_int rfl) (dv_var rfl) (show (0 : Int) < n by omega)) ?_))
    refine ex_seq (ex_setL (j := 0) rfl (ev_dv (dv_iI (dv_ixM rfl rfl dv_int rfl) (dv_var rfl) (wide_div (b := 64) (by omega) (by omega) (by decide) (by decide))) (ev_dv dv_int ⟨_, _, 0, _, rfl, rfl, rfl, rfl, ?_⟩)))
    refine ex_ret (EV.mw (ev_dv (dv_var rfl) ⟨[bag], .cons (bag_wk ⟨Int.ediv_nonneg b1 (by omega), ?_, b3, b4⟩) .nil, q _ (Int.emod_nonneg _ (by omega)) (Int.emod_lt_of_pos _ (by omega))⟩))
    exact Int.lt_of_le_of_lt (Int.ediv_le_self _ b1) b2
  · refine ex_next ?_
    refine ex_seq (ex_setL (j := 0) rfl (ev_dv (dv_iI (dv_iI (dv_ixM rfl rfl dv_int rfl) dv_int (small_mul (by omega) (by omega) (by omega) (by omega))) dv_int (by decide)) (ev_dv dv_int ⟨_, _, 1, _, rfl, rfl, rfl, rfl, ?_⟩)))
    have hp : ∃ m : Int, 0 < m ∧ m < 2147483647 ∧ y * 48271 % 2147483647 = m := by
      refine ⟨_, ?_, Int.emod_lt_of_pos _ (by decide), rfl⟩
      have h0 : 0 ≤ y * 48271 % 2147483647 := Int.emod_nonneg _ (by decide)
      rcases Int.lt_or_eq_of_le h0 with z | z
      · exact z
      · exfalso
        exact bag_prime b3 b4 z.symm
    obtain ⟨m, m1, m2, em⟩ := hp
    rw [em]
    refine ex_ret (EV.mw (ev_dv (dv_iI (dv_iI (dv_iI (dv_iI (dv_iI (dv_ixM (d := .int m) rfl rfl dv_int rfl) dv_int (wide_div (b := 64) (by decide) (by decide) (by decide) (by decide))) (dv_i0 (dv_iI (dv_ixM (d := .int m) rfl rfl dv_int rfl) dv_int (by decide)) dv_int) (small_mul (by omega) (by omega) (by omega) (by omega))) dv_int (by decide)) dv_int (wide_div (b := 64) (by decide) (by decide) (by decide) (by decide))) (dv_var rfl) (show (0 : Int) < n by omega)) ⟨[bag], .cons (bag_wk ⟨b1, b2, by omega, by omega⟩) .nil, q _ (Int.emod_nonneg _ (by omega)) (Int.emod_lt_of_pos _ (by omega))⟩))
theorem ev_take {c : Cn} {ρ : List Sl} {M : List MO} {tn : TE} {E : XK} {Q : QS} {X : XP} {i j : Nat} {n : Int} (hb : ρ[i]? = some (.m j)) (hj : M[j]? = some bag) (h : Dv c tn ρ M (.int n)) (h1 : 1 ≤ n) (h2 : n ≤ 1000000000000)
    (q : ∀ z : Int, 0 ≤ z → z < n → Q (.d (.int z)) M) : EV c (tCall (spW c.K c.T (W__law_take a)) [] E (tCons (tVar i) (tCons tn tNil))) ρ M Q X :=
  ev_bag (fun d => ∃ z : Int, d = .int z ∧ 0 ≤ z ∧ z < n) hb hj (da_cons h da_nil) (fun Q' q' => ⟨n, rfl, rfl, h1, h2, fun z z0 z1 => q' _ ⟨z, rfl, z0, z1⟩⟩) fun d ⟨z, e, z0, z1⟩ => by subst e; exact q z z0 z1

def W__law_of (a : Ad) : Wd := fun ρ M Q X => ∃ ds : List PyData, ρ = [.m 0, .d (.list ds)] ∧ M = [bag] ∧ 0 < ds.length ∧ ds.length ≤ 1000 ∧ ∀ d ∈ ds, Q (.d d) [bag]
theorem ok__law_of (t : Tx K mg a) : FnOk P w K mg base (L2N.CX P w) 2 a._law_of a.fd__law_of ["bag", "some"] (spW K T (W__law_of a)) := by
  refine fn_ok t.F__law_of sc__law_of (fun ρ M Q X h => by obtain ⟨_, rfl, _⟩ := h; rfl) (by decide) fun cdv A outer s H E hr => ⟨_, (pss_one (ps_ret (pe_ix ix_list (pv 1) (pe_call (ok__law_take (T := T) t) (hr.mono (by decide)) (by rfl) t.g__law_take t.F__law_take.kp t.b__law_take .nil passN (pa_cons (pv 0) (pa_cons (pe_callB call_len_seq (by rfl) t.m_len (by decide +kernel) (pa_cons (pv 1) pa_nil)) pa_nil))) (fun _ _ => rfl)))), fun ρ M Q X hW => ?_⟩
  obtain ⟨ds, rfl, rfl, h1, h2, q⟩ := hW
  refine ex_ret (ev_ixL (ev_dv (dv_var rfl) ⟨_, rfl, ev_take rfl rfl (dv_len (dv_var rfl) rfl) (by omega) (by omega) fun z z0 z1 => ?_⟩))
  have hz : z.toNat < ds.length := by omega
  refine ⟨z, ds[z.toNat], rfl, ?_, q _ (List.getElem_mem hz)⟩
  have := atD_nat (List.getElem?_eq_getElem hz)
  rwa [show ((z.toNat : Nat) : Int) = z by omega] at this
theorem ev_of {c : Cn} {ρ : List Sl} {M : List MO} {tn : TA} {E : XK} {Q : QS} {X : XP} {i j : Nat} (ds : List PyData) (hb : ρ[i]? = some (.m j)) (hj : M[j]? = some bag) (h : Da c tn ρ M ds) (h1 : 0 < ds.length := by exact Nat.le_of_ble_eq_true rfl) (h2 : ds.length ≤ 1000 := by exact Nat.le_of_ble_eq_true rfl)
    (q : ∀ z ∈ ds, Q (.d z) M) : EV c (tCall (spW c.K c.T (W__law_of a)) [] E (tCons (tVar i) (tCons (tLst tn) tNil))) ρ M Q X :=
  ev_bag (fun d => d ∈ ds) hb hj (da_cons (dv_dl (dl_lst h h2)) da_nil) (fun Q' q' => ⟨ds, rfl, rfl, h1, h2, q'⟩) q

def W__law_action (a : Ad) : Wd := fun ρ M Q X => ρ = [.m 0] ∧ M = [bag] ∧ ∀ (k : Nat) (v : PyData), k < 4 → Q (.d (.tuple [.str (kW k), v])) [bag]
theorem ok__law_action (t : Tx K mg a) : FnOk P w K mg base (L2N.CX P w) 3 a._law_action a.fd__law_action ["bag"] (spW K T (W__law_action a)) := by
  refine fn_ok t.F__law_action sc__law_action (fun ρ M Q X h => by obtain ⟨rfl, _⟩ := h; rfl) (by decide) fun cdv A outer s H E hr => ⟨_, (pss_cons (ps_set (i := 1) sc__law_action.nd rfl (.inl rfl) (pe_call (ok__law_take (T := T) t) (hr.mono (by decide)) (by rfl) t.g__law_take t.F__law_take.kp t.b__law_take .nil passN (pa_cons (pv 0) (pa_cons pe_int pa_nil))))
      (pss_cons (ps_set (i := 2) sc__law_action.nd rfl (.inl rfl) (pe_call (ok__law_of (T := T) t) (hr.mono (by decide)) (by rfl) t.g__law_of t.F__law_of.kp t.b__law_of .nil passN (pa_cons (pv 0) (pa_cons (pe_lst (pa_cons (pe_op op_add pe_int (pe_call (ok__law_take (T := T) t) (hr.mono (by decide)) (by rfl) t.g__law_take t.F__law_take.kp t.b__law_take .nil passN (pa_cons (pv 0) (pa_cons pe_int pa_nil)))) (pa_cons (pe_op op_add pe_int (pe_call (ok__law_take (T := T) t) (hr.mono (by decide)) (by rfl) t.g__law_take t.F__law_take.kp t.b__law_take .nil passN (pa_cons (pv 0) (pa_cons pe_int pa_nil)))) (pa_cons pe_int (pa_cons (pe_un un_neg pe_int) (pa_cons pe_bl (pa_cons pe_non (pa_cons (pe_op op_add (pe_op op_pow pe_int pe_int) pe_int) pa_nil)))))))) pa_nil))))
      (pss_cons (ps_if (pt_cmpR op_lt (pv 1) pe_int (nomark _)) (pss_one (ps_ret (pe_tup (pa_cons pe_str (pa_cons (pv 2) pa_nil))))) pss_nil)
      (pss_cons (ps_if (pt_cmpR op_lt (pv 1) pe_int (nomark _)) (pss_one (ps_ret (pe_tup (pa_cons pe_str (pa_cons (pv 2) pa_nil))))) pss_nil)
      (pss_one (ps_ret (pe_ifExp (pt_cmpR op_lt (pv 1) pe_int (nomark _)) (pe_tup (pa_cons pe_str (pa_cons pe_non pa_nil))) (pe_tup (pa_cons pe_str (pa_cons pe_non pa_nil)))))))))), fun ρ M Q X hW => ?_⟩
  obtain ⟨rfl, rfl, q⟩ := hW
  refine ex_seq (ex_asg (ev_take rfl rfl dv_int (by decide) (by decide) fun w w0 w1 => ?_))
  refine ex_seq (ex_asg (ev_bagA (fun _ => True) rfl rfl (ea_cons (ev_frz (ev_lst (ea_cons (ev_i0 (ev_dv dv_int ⟨_, rfl, ev_take rfl rfl dv_int (by decide) (by decide) fun z1 _ _ => ⟨_, rfl, ea_cons (ev_i0 (ev_dv dv_int ⟨_, rfl, ev_take rfl rfl dv_int (by decide) (by decide) fun z2 _ _ => ⟨_, rfl, ea_da (da_cons dv_int (da_cons (Dv.cast (dv_un dv_int) (d' := .int (-1)) rfl) (da_cons dv_bl (da_cons dv_non (da_cons (Dv.cast (dv_i0 (Dv.cast (dv_iI dv_int dv_int pow_ok) (d' := .int 1000000) rfl) dv_int) (d' := .int 1000001) rfl) da_nil))))) ⟨[.int (1 + z1), .int (1 + z2), .int 0, .int (-1), .bool true, .none, .int 1000001], rfl, (show 7 ≤ sizeLine by decide), ⟨_, rfl, rfl, ea_nil ⟨[.list [.int (1 + z1), .int (1 + z2), .int 0, .int (-1), .bool true, .none, .int 1000001]], rfl, rfl, fun Q' q' => ⟨_, rfl, rfl, Nat.succ_pos _, (show 7 ≤ 1000 by decide), fun d _ => q' d trivial⟩, fun z _ => ?_⟩⟩⟩⟩⟩))⟩⟩))))))))
  show EX _ _ [.m 0, .d (.int w), .d z] [bag] _
  refine ex_seq (ex_ifd (dt_test (dv_b0 (dv_var rfl) dv_int)) (fun _ => ex_ret (ev_dv (dv_tup (da_cons dv_str (da_cons (dv_var rfl) da_nil))) (q 0 _ (by decide)))) (fun _ => ex_next ?_))
  refine ex_seq (ex_ifd (dt_test (dv_b0 (dv_var rfl) dv_int)) (fun _ => ex_ret (ev_dv (dv_tup (da_cons dv_str (da_cons (dv_var rfl) da_nil))) (q 1 _ (by decide)))) (fun _ => ex_next ?_))
  exact ex_ret (ev_if (et_dt (dt_test (dv_b0 (dv_var rfl) dv_int)) ⟨fun _ => ev_dv (dv_tup (da_cons dv_str (da_cons dv_non da_nil))) (q 2 _ (by decide)), fun _ => ev_dv (dv_tup (da_cons dv_str (da_cons dv_non da_nil))) (q 3 _ (by decide))⟩))

def W__law_due (a : Ad) : Wd := fun ρ M Q X => ∃ (l f : Int) (c : PyData) (L0 : List St3) (s : St3) (k : Nat) (v : PyData), ρ = [.d (.tuple [.int l, .int f, c]), .m 0, .d (.tuple [.str (kW k), v])] ∧ M = [.lst ((L0 ++ [s]).map soD)] ∧ TermsOk l f c ∧ L0.length ≤ 1000 ∧ s.2.2 ≤ 1000 ∧ (s.2.1 = [] → s.2.2 = 0) ∧ k < 4 ∧ Q (.d (stepA l f c L0 s k v).1) [.lst ((stepA l f c L0 s k v).2.map soD)]
theorem ok__law_due (t : Tx K mg a) : FnOk P w K mg base (L2N.CX P w) 1 a._law_due a.fd__law_due ["terms", "states_so", "action"] (spW K T (W__law_due a)) := by
  refine fn_ok t.F__law_due sc__law_due (fun ρ M Q X h => by obtain ⟨_, _, _, _, _, _, _, rfl, _⟩ := h; rfl) (by decide) fun cdv A outer s H E hr => ⟨_, (pss_cons (ps_asg (pe_ix ix_list (pv 1) (pe_un un_neg pe_int) (fun _ _ => rfl)) (pg_tup rfl (pgs_cons (pg_name (i := 5) sc__law_due.nd rfl (.inl rfl)) (pgs_cons (pg_name (i := 6) sc__law_due.nd rfl (.inl rfl)) (pgs_cons (pg_name (i := 7) sc__law_due.nd rfl (.inl rfl)) pgs_nil)))))
      (pss_cons (ps_asg (pv 0) (pg_tup rfl (pgs_cons (pg_name (i := 8) sc__law_due.nd rfl (.inl rfl)) (pgs_cons (pg_name (i := 9) sc__law_due.nd rfl (.inl rfl)) (pgs_cons (pg_name (i := 10) sc__law_due.nd rfl (.inl rfl)) pgs_nil)))))
      (pss_cons (ps_set (i := 3) sc__law_due.nd rfl (.inl rfl) (pe_ix ix_tup (pv 2) pe_int (fun _ _ => rfl)))
      (pss_cons (ps_if (pt_cmpR (op_eqD (hu_units hr)) (pe_ix ix_tup (pv 2) pe_int (fun _ _ => rfl)) pe_str (nomark _)) (pss_cons (ps_if (pt_cmpR (op_eqD (hu_units hr)) (pe_callB call_len_seq (by rfl) t.m_len (by decide +kernel) (pa_cons (pv 1) pa_nil)) pe_int (nomark _)) (pss_one (ps_ret pe_str)) pss_nil)
      (pss_cons (ps_expr (pe_bm0 PySem.F.plainAttrs_list PySem.F.slot_list_pop PySem.F.type_list_pop mt_pop (pv 1)))
      (pss_one (ps_ret pe_non)))) pss_nil)
      (pss_cons (ps_if (pt_cmpR (op_eqD (hu_units hr)) (pe_ix ix_tup (pv 2) pe_int (fun _ _ => rfl)) pe_str (nomark _)) (pss_cons (ps_set (i := 11) sc__law_due.nd rfl (.inl rfl) (pe_op op_mulW (pv 9) (pe_ifExp (pt_cmpR op_isN (pv 10) pe_non (nomark _)) (pv 7) (pe_callB (call_min2 rfl) (by rfl) t.m_min (by decide +kernel) (pa_cons (pv 7) (pa_cons (pv 10) pa_nil))))))
      (pss_cons (ps_expr (pe_bm PySem.F.plainAttrs_list PySem.F.slot_list_append PySem.F.type_list_append mt_append (pv 1) (pa_cons (pe_tup (pa_cons (pe_op op_sub (pv 5) (pv 11)) (pa_cons pe_int (pa_cons pe_int pa_nil)))) pa_nil)))
      (pss_one (ps_ret (pv 11))))) pss_nil)
      (pss_cons (ps_if (PW.pt (pw_or (pt_not (pt_val (pe_callB call_isi (by rfl) t.m_isinstance (by decide +kernel) (pa_cons (pv 3) (pa_cons (pe_bltn (v := .ty "int") (by rfl) t.m_int (by decide +kernel) rfl) pa_nil))))) (pw_or (pt_val (pe_callB call_isi (by rfl) t.m_isinstance (by decide +kernel) (pa_cons (pv 3) (pa_cons (pe_bltn (v := .ty "bool") (by rfl) t.m_bool (by decide +kernel) rfl) pa_nil)))) (pw_or1 (pt_not (pt_chain op_le op_le pe_int (pv 3) (pe_op op_pow pe_int pe_int))))))) (pss_one (ps_ret pe_str)) pss_nil)
      (pss_cons (ps_if (pt_cmpR (op_eqD (hu_units hr)) (pe_ix ix_tup (pv 2) pe_int (fun _ _ => rfl)) pe_str (nomark _)) (pss_cons (ps_if (pt_cmpR op_gt (pv 6) pe_int (nomark _)) (pss_one (ps_ret pe_str)) pss_nil)
      (pss_cons (ps_expr (pe_bm PySem.F.plainAttrs_list PySem.F.slot_list_append PySem.F.type_list_append mt_append (pv 1) (pa_cons (pe_tup (pa_cons (pe_op op_add (pv 5) (pv 3)) (pa_cons pe_int (pa_cons pe_int pa_nil)))) pa_nil)))
      (pss_one (ps_ret pe_non)))) pss_nil)
      (pss_cons (ps_set (i := 4) sc__law_due.nd rfl (.inl rfl) (pe_cmpR op_lt (pe_op op_sub (pv 5) (pv 3)) (pv 8) (nomark _)))
      (pss_cons (ps_expr (pe_bm PySem.F.plainAttrs_list PySem.F.slot_list_append PySem.F.type_list_append mt_append (pv 1) (pa_cons (pe_tup (pa_cons (pe_op op_sub (pv 5) (pv 3)) (pa_cons (pe_op op_add (pv 6) pe_int) (pa_cons (pe_op op_add (pv 7) (pe_callTy call_int1 (by rfl) t.m_int (by decide +kernel) (pa_cons (pv 4) pa_nil))) pa_nil)))) pa_nil)))
      (pss_one (ps_ret (pv 4)))))))))))), fun ρ M Q X hW => ?_⟩
  obtain ⟨l, f, c, L0, s, k, v, rfl, rfl, ht, hl, hz, hg, hk, q⟩ := hW
  have hd : ((L0 ++ [s]).map soD).length < 100000 := by rw [List.length_map, List.length_append]; show _ + 1 < _; omega
  have hap : ∀ x : St3, (L0 ++ [s] ++ [x]).map soD = (L0 ++ [s]).map soD ++ [soD x] := fun x => by rw [List.map_append]; rfl
  obtain ⟨b, ps, n⟩ := s
  have hz : n ≤ 1000 := hz
  refine ex_seq (ex_asgT (js := [5, 6, 7]) (ev_dv (dv_ixM rfl rfl (Dv.cast (dv_un dv_int) (d' := .int (-1)) rfl) (atD_lastM soD L0 _)) ⟨_, rfl, rfl, rfl, ?_⟩))
  refine ex_seq (ex_asgT (js := [8, 9, 10]) (ev_dv (dv_var rfl) ⟨_, rfl, rfl, rfl, ?_⟩))
  refine ex_seq (ex_asg (ev_dv (dv_ixT (d := v) (dv_var rfl) dv_int rfl) ?_))
  show EX _ _ [.d (.tuple [.int l, .int f, c]), .m 0, .d (.tuple [.str (kW k), v]), .d v, .un, .d (.int b), .d (.int (ps.length : Int)), .d (.int (n : Int)), .d (.int l), .d (.int f), .d c, .un] _ _
  have act : ∀ (w : Str) (j : Nat) (M' : List MO), SeqAt.shaped (.str (kW j)) = true → SeqAt.shaped (.str w) = true → Dt ⟨K, T, fun _ => E⟩ (tTest (tOp (rEqD K) (tOp (rIxT K) (tVar 2) (tC (.int 0))) (tC (.str w)))) [.d (.tuple [.int l, .int f, c]), .m 0, .d (.tuple [.str (kW j), v]), .d v, .un, .d (.int b), .d (.int (ps.length : Int)), .d (.int (n : Int)), .d (.int l), .d (.int f), .d c, .un] M' (decide (kW j = w)) := fun w j M' h1 h2 => Dt.cast (dt_test (dv_eqD (dv_ixT (d := .str (kW j)) (dv_var rfl) dv_int rfl) dv_str h1 h2)) (eqv_str _ _)
  have hsw : ∀ j, SeqAt.shaped (.str (kW j)) = true := fun j => by
    match j with
    | 0 => decide +kernel
    | 1 => decide +kernel
    | 2 => decide +kernel
    | j + 3 => exact (by decide +kernel : SeqAt.shaped (.str "undo") = true)
  have tst : ∀ M' : List MO, Dt ⟨K, T, fun _ => E⟩ (tOr (tNot (tB (tCB (rIsi K) (tCons (tVar 3) (tCons (tC (.ty "int")) tNil))))) (tOr (tB (tCB (rIsi K) (tCons (tVar 3) (tCons (tC (.ty "bool")) tNil)))) (tNot (tTest (tChain (rI0 fun i j => .bl (decide (i ≤ j))) (rI0 fun i j => .bl (decide (i ≤ j))) (tC (.int 1)) (tVar 3) (tOp (rI CPow fun i j => .int (i ^ j.toNat)) (tC (.int 10)) (tC (.int 6)))))))) [.d (.tuple [.int l, .int f, c]), .m 0, .d (.tuple [.str (kW k), v]), .d v, .un, .d (.int b), .d (.int (ps.length : Int)), .d (.int (n : Int)), .d (.int l), .d (.int f), .d c, .un] M' (!isInt v 1 1000000) := fun M' => by
    refine Dt.cast (dt_or (dt_not (dt_B (dv_isi (dv_var rfl) (kit_int v)))) fun h1 => dt_or (dt_B (dv_isi (dv_var rfl) (kit_bool v))) fun h2 => (?_ : Dt _ _ _ _ (!isInt v 1 1000000))) ?_
    · cases v with
      | int x => exact dt_not (dt_test (dv_chain dv_int (dv_var rfl) fun _ => Dv.cast (dv_iI dv_int dv_int pow_ok) (d' := .int 1000000) rfl))
      | bool x => cases h2
      | _ => cases h1
    · cases v <;> simp [isInt, isI, isB]
  obtain rfl | rfl | rfl | rfl : k = 0 ∨ k = 1 ∨ k = 2 ∨ k = 3 := by omega
  · refine ex_seq (ex_ifd (Dt.cast (act _ 0 _ (hsw 0) (hsw 3)) (d' := false) (by decide +kernel)) (fun h => nomatch h) (fun _ => ex_next ?_))
    refine ex_seq (ex_ifd (Dt.cast (act _ 0 _ (hsw 0) (hsw 2)) (d' := false) (by decide +kernel)) (fun h => nomatch h) (fun _ => ex_next ?_))
    refine ex_seq (ex_ifd (tst _) (fun h => ex_ret (ev_dv dv_str (by rw [step0_bad (not_true h)] at q; exact q))) (fun h => ex_next ?_))
    have hv := not_false h
    obtain ⟨x, rfl, _, _⟩ := isInt_of hv
    refine ex_seq (ex_ifd (Dt.cast (act _ 0 _ (hsw 0) (hsw 0)) (d' := true) (by decide +kernel)) (fun _ => ?_) (fun h => nomatch h))
    refine ex_seq (ex_ifd (dt_test (dv_b0 (dv_var rfl) dv_int)) (fun h => ex_ret (ev_dv dv_str ?_)) (fun h => ex_next ?_))
    · have hp : ps ≠ [] := fun z => by subst z; exact absurd (of_decide_eq_true h) (by decide)
      rw [step0_late hv hp] at q
      exact q
    · have hp : ps = [] := by
        cases ps with
        | nil => rfl
        | cons y r => exact absurd (of_decide_eq_false h) (by simp only [List.length_cons]; omega)
      have hn : n = 0 := hg hp
      subst hp; subst hn
      rw [step0_ok hv rfl] at q
      refine ex_seq (ex_append rfl rfl (ev_dv (dv_tup (da_cons (dv_i0 (dv_var rfl) (dv_var rfl)) (da_cons dv_int (da_cons dv_int da_nil)))) ⟨_, _, rfl, rfl, hd, ?_⟩))
      refine ex_ret (ev_dv dv_non ?_)
      have q : Q (.d .none) [.lst ((L0 ++ [(b, [], 0)] ++ [(b + x, [], 0)]).map soD)] := q
      rw [hap] at q
      exact q
  · refine ex_seq (ex_ifd (Dt.cast (act _ 1 _ (hsw 1) (hsw 3)) (d' := false) (by decide +kernel)) (fun h => nomatch h) (fun _ => ex_next ?_))
    refine ex_seq (ex_ifd (Dt.cast (act _ 1 _ (hsw 1) (hsw 2)) (d' := false) (by decide +kernel)) (fun h => nomatch h) (fun _ => ex_next ?_))
    refine ex_seq (ex_ifd (tst _) (fun h => ex_ret (ev_dv dv_str (by rw [step1_bad (not_true h)] at q; exact q))) (fun h => ex_next ?_))
    have hv := not_false h
    obtain ⟨x, rfl, _, _⟩ := isInt_of hv
    refine ex_seq (ex_ifd (Dt.cast (act _ 1 _ (hsw 1) (hsw 0)) (d' := false) (by decide +kernel)) (fun h => nomatch h) (fun _ => ex_next ?_))
    refine ex_seq (ex_asg (ev_dv (dv_b0 (dv_i0 (dv_var rfl) (dv_var rfl)) (dv_var rfl)) ?_))
    refine ex_seq (ex_append rfl rfl (ev_dv (dv_tup (da_cons (dv_i0 (dv_var rfl) (dv_var rfl)) (da_cons (dv_i0 (dv_var rfl) dv_int) (da_cons (dv_i0 (dv_var rfl) (dv_intB (dv_var rfl))) da_nil)))) ⟨_, _, rfl, rfl, hd, ?_⟩))
    refine ex_ret (ev_dv (dv_var rfl) ?_)
    rw [step1_ok hv] at q
    have q : Q (.d (.bool (decide (b - x < l)))) [.lst ((L0 ++ [(b, ps, n)] ++ [(b - x, ps ++ [x], n + if b - x < l then 1 else 0)]).map soD)] := q
    have e : soD (b - x, ps ++ [x], n + if b - x < l then 1 else 0) = .tuple [.int (b - x), .int ((ps.length : Int) + 1), .int ((n : Int) + (if decide (b - x < l) = true then 1 else 0))] := by
      unfold soD
      by_cases h : b - x < l <;> simp [h]
    rw [hap, e] at q
    exact q
  · refine ex_seq (ex_ifd (Dt.cast (act _ 2 _ (hsw 2) (hsw 3)) (d' := false) (by decide +kernel)) (fun h => nomatch h) (fun _ => ex_next ?_))
    refine ex_seq (ex_ifd (Dt.cast (act _ 2 _ (hsw 2) (hsw 2)) (d' := true) (by decide +kernel)) (fun _ => ?_) (fun h => nomatch h))
    have hb := capped_bd ht.2.2.2.2 (show (0 : Int) ≤ (n : Int) by omega)
    obtain ⟨t1, t2, t3, t4, t5⟩ := id ht
    refine ex_seq (ex_asg (ev_dv (dv_iI (dv_var rfl) (Dv.cast (dv_if (y := .int (capped c (n : Int))) (dt_test (dv_isN (dv_var rfl) dv_non)) (fun h => dv_var rfl) (fun h => ?_)) ?_) (small_mul (j := capped c (n : Int)) (by omega) (by omega) (by omega) (by omega))) ?_))
    · cases c with
      | int k => exact dv_min2 (dv_var rfl) (dv_var rfl)
      | none => cases h
      | _ => exact t5.elim
    · cases c <;> first | rfl | exact t5.elim
    refine ex_seq (ex_append rfl rfl (ev_dv (dv_tup (da_cons (dv_i0 (dv_var rfl) (dv_var rfl)) (da_cons dv_int (da_cons dv_int da_nil)))) ⟨_, _, rfl, rfl, hd, ?_⟩))
    refine ex_ret (ev_dv (dv_var rfl) ?_)
    have q : Q (.d (.int (f * capped c (n : Int)))) [.lst ((L0 ++ [(b, ps, n)] ++ [(b - f * capped c (n : Int), [], 0)]).map soD)] := q
    rw [hap] at q
    exact q
  · refine ex_seq (ex_ifd (Dt.cast (act _ 3 _ (hsw 3) (hsw 3)) (d' := true) (by decide +kernel)) (fun _ => ?_) (fun h => nomatch h))
    refine ex_seq (ex_ifd (b := L0.isEmpty) (Dt.cast (dt_test (dv_eqD (dv_lenM rfl rfl) dv_int rfl rfl)) ?_) (fun h => ex_ret (ev_dv dv_str ?_)) (fun h => ex_next ?_))
    · rw [eqv_ii, List.length_map, List.length_append]
      cases L0 with
      | nil => rfl
      | cons y l => exact decide_eq_false (by rw [List.length_cons]; show ¬ (((_ + 1 + 1 : Nat) : Int) = 1); omega)
    · have h := List.isEmpty_iff.mp h
      subst h
      exact q
    · rw [step3_ok (fun z => by rw [z] at h; cases h)] at q
      refine ex_seq (ex_popE (dm_var rfl) rfl (by rw [List.length_map, List.length_append]; exact Nat.succ_pos _) ?_)
      have e : ((L0 ++ [(b, ps, n)]).map soD).dropLast = L0.map soD := by rw [List.map_append]; exact List.dropLast_concat
      refine ex_ret (ev_dv dv_non ?_)
      show Q (.d .none) [.lst ((L0 ++ [(b, ps, n)]).map soD).dropLast]
      rw [e]
      exact q

def W__law_did (a : Ad) : Wd := fun ρ M Q X => ∃ (l f : Int) (c : PyData) (L0 : List St3) (s : St3) (k : Nat) (v : PyData), ρ = [acc a.Account (.tuple [.int l, .int f, c]) (.inr 0), .d (.tuple [.str (kW k), v])] ∧ M = [.lst ((L0 ++ [s]).map stD)] ∧ TermsOk l f c ∧ L0.length ≤ 1000 ∧ s.2.2 ≤ 1000 ∧ s.2.1.length ≤ 1000 ∧ k < 4 ∧ Q (.d (stepA l f c L0 s k v).1) [.lst ((stepA l f c L0 s k v).2.map stD)]
theorem ok__law_did (t : Tx K mg a) : FnOk P w K mg base (L2N.CX P w) 3 a._law_did a.fd__law_did ["run", "action"] (spW K T (W__law_did a)) := by
  refine fn_ok t.F__law_did sc__law_did (fun ρ M Q X h => by obtain ⟨_, _, _, _, _, _, _, rfl, _⟩ := h; rfl) (by decide) fun cdv A outer s H E hr => ⟨_, (pss_one (L2N.ps_try_as (i := 2) rfl rfl sc__law_did.nd rfl rfl ⟨rfl, by decide, .inl t.g_FeeError⟩ takesN (fun W pn xe tk _ => (pss_cons (ps_if (pt_cmpR (kEq (K := K) rfl (hu_units hr)) (pe_ix (kIxT (K := K) rfl) (pv 1) pe_int (fun _ _ => rfl)) pe_str (nomark _)) (pss_one (ps_ret (pe_methT (pv 0) t.cls_Account t.me_Account_credit (ok_Account_credit (T := T) t) (hr.mono (j := 2) (by decide)) t.b_Account_credit (fun σ => L2N.passAt tk σ) (pa_cons (pe_ix (kIxT (K := K) rfl) (pv 1) pe_int (fun _ _ => rfl)) pa_nil)))) pss_nil)
      (pss_cons (ps_if (pt_cmpR (kEq (K := K) rfl (hu_units hr)) (pe_ix (kIxT (K := K) rfl) (pv 1) pe_int (fun _ _ => rfl)) pe_str (nomark _)) (pss_one (ps_ret (pe_methT (pv 0) t.cls_Account t.me_Account_debit (ok_Account_debit (T := T) t) (hr.mono (j := 2) (by decide)) t.b_Account_debit (fun σ => L2N.passAt tk σ) (pa_cons (pe_ix (kIxT (K := K) rfl) (pv 1) pe_int (fun _ _ => rfl)) pa_nil)))) pss_nil)
      (pss_one (ps_ret (pe_ifExp (pt_cmpR (kEq (K := K) rfl (hu_units hr)) (pe_ix (kIxT (K := K) rfl) (pv 1) pe_int (fun _ _ => rfl)) pe_str (nomark _)) (pe_methT0 (pv 0) t.cls_Account t.me_Account_end_day (ok_Account_end_day (T := T) t) (hr.mono (j := 2) (by decide)) t.b_Account_end_day (fun σ => L2N.passAt tk σ)) (pe_methT0 (pv 0) t.cls_Account t.me_Account_undo (ok_Account_undo (T := T) t) (hr.mono (j := 1) (by decide)) t.b_Account_undo (fun σ => L2N.passAt tk σ)))))))) (fun a' oe cls d pn hz hf => (pss_cons (ps_set (i := 3) sc__law_did.nd rfl (.inl rfl) (pe_lst (pa_cons (pe_callB (call_isX hz hf) (by rfl) t.m_isinstance (by decide +kernel) (pa_cons (pv 2) (pa_cons (pe_glob (v := .ref a.InvalidAmount) rfl t.g_InvalidAmount rfl) pa_nil))) (pa_cons (pe_callB (call_isX hz hf) (by rfl) t.m_isinstance (by decide +kernel) (pa_cons (pv 2) (pa_cons (pe_glob (v := .ref a.TooLate) rfl t.g_TooLate rfl) pa_nil))) (pa_cons (pe_callB (call_isX hz hf) (by rfl) t.m_isinstance (by decide +kernel) (pa_cons (pv 2) (pa_cons (pe_glob (v := .ref a.NothingToUndo) rfl t.g_NothingToUndo rfl) pa_nil))) pa_nil)))))
      (pss_one (ps_ret (kJoin (K := K) rfl pe_str (pe_lcH (own := [("word", 4), ("good", 5)]) (by exact hotC_suite hz hf) sc__law_did.nd (kPiZipH (K := K) rfl (by rfl) t.m_zip (pa_cons (pe_lst (pa_cons pe_str (pa_cons pe_str (pa_cons pe_str pa_nil)))) (pa_cons (pv 3) pa_nil))) (blkOk_by (own := [("word", 4), ("good", 5)]) (N := N__law_did) (sc := (defScope s__law_did)) (by decide +kernel)) (fun _ _ _ _ _ => (kPgTH (K := K) (n := 2) rfl (by exact hotB (hotC_suite hz hf)) (pgs_cons (pg_name (i := 4) sc__law_did.nd rfl (.inl rfl)) (pgs_cons (pg_name (i := 5) sc__law_did.nd rfl (.inl rfl)) pgs_nil)))) (fun _ _ _ _ _ => (pts_one (pt_val (pv 5)))) (fun _ _ _ _ _ => (pv 4)))))))))), fun ρ M Q X hW => ?_⟩
  obtain ⟨l, f, c, L0, s, k, v, rfl, rfl, ht, hl, hz, hz2, hk, q⟩ := hW
  have okm : ∀ s' ∈ ([acc a.Account (.tuple [.int l, .int f, c]) (.inr 0), .d v] : List Sl), okM 0 s' := fun s' hs => by
    simp only [List.mem_cons, List.not_mem_nil, or_false] at hs
    rcases hs with rfl | rfl
    · exact ⟨trivial, rfl⟩
    · trivial
  have okm1 : ∀ s' ∈ ([acc a.Account (.tuple [.int l, .int f, c]) (.inr 0)] : List Sl), okM 0 s' := fun s' hs => by
    simp only [List.mem_cons, List.not_mem_nil, or_false] at hs
    subst hs
    exact ⟨trivial, rfl⟩
  have hsw : ∀ j, SeqAt.shaped (.str (kW j)) = true := fun j => by
    match j with
    | 0 => decide +kernel
    | 1 => decide +kernel
    | 2 => decide +kernel
    | j + 3 => exact (by decide +kernel : SeqAt.shaped (.str "undo") = true)
  have act : ∀ (E' : L2.St → XK) (w : Str) (j : Nat) (M' : List MO), SeqAt.shaped (.str w) = true → Dt ⟨K, T, E'⟩ (tTest (tOp (rEqD K) (tOp (rIxT K) (tVar 1) (tC (.int 0))) (tC (.str w)))) [acc a.Account (.tuple [.int l, .int f, c]) (.inr 0), .d (.tuple [.str (kW j), v]), .un, .un, .un, .un] M' (decide (kW j = w)) := fun E' w j M' h2 => Dt.cast (dt_test (dv_eqD (dv_ixT (d := .str (kW j)) (dv_var rfl) dv_int rfl) dv_str (hsw j) h2)) (eqv_str _ _)
  refine ex_try (tb := fun W => tSeq (tIfS _ (tRet (tMethT _ _ _ (WE W) _ _)) _) (tSeq (tIfS _ (tRet (tMethT _ _ _ (WE W) _ _)) _) (tRet (tIf _ (tMethT _ _ _ (WE W) _ _) (tMethT _ _ _ (WE W) _ _))))) (Xb := fun C ρ' M' => ρ' = [acc a.Account (.tuple [.int l, .int f, c]) (.inr 0), .d (.tuple [.str (kW k), v]), .un, .un, .un, .un] ∧ M' = [.lst ((L0 ++ [s]).map stD)] ∧ (C = a.InvalidAmount ∧ stepA l f c L0 s k v = (.str "amount", L0 ++ [s]) ∨ C = a.TooLate ∧ stepA l f c L0 s k v = (.str "late", L0 ++ [s]) ∨ C = a.NothingToUndo ∧ stepA l f c L0 s k v = (.str "undo", L0 ++ [s]))) (fun W => ?_) (fun C ρ' M' h => ?_)
  · obtain rfl | rfl | rfl | rfl : k = 0 ∨ k = 1 ∨ k = 2 ∨ k = 3 := by omega
    · refine ex_seq (ex_ifd (Dt.cast (act _ _ 0 _ (hsw 0)) (d' := true) (by decide +kernel)) (fun _ => ?_) (fun h => nomatch h))
      refine ex_ret (ev_methT rfl (ev_callMX rfl (ea_cons (ev_var rfl (fun z => nomatch z) (ea_cons (ev_dv (dv_ixT (d := v) (dv_var rfl) dv_int rfl) (ea_nil ⟨0, _, rfl, okm, ⟨_, v, L0, s, rfl, rfl, hl, fun hv => ⟨_, [], rfl, rfl, rfl, .inl ⟨rfl, step0_bad hv⟩⟩, fun hv hp => ⟨_, [], rfl, rfl, rfl, .inr (.inl ⟨rfl, step0_late hv hp⟩)⟩, fun hv hp => ⟨_, [], rfl, ?_⟩⟩⟩)))))))
      rw [step0_ok hv hp] at q
      exact q
    · refine ex_seq (ex_ifd (Dt.cast (act _ _ 1 _ (hsw 0)) (d' := false) (by decide +kernel)) (fun h => nomatch h) (fun _ => ex_next ?_))
      refine ex_seq (ex_ifd (Dt.cast (act _ _ 1 _ (hsw 1)) (d' := true) (by decide +kernel)) (fun _ => ?_) (fun h => nomatch h))
      refine ex_ret (ev_methT rfl (ev_callMX rfl (ea_cons (ev_var rfl (fun z => nomatch z) (ea_cons (ev_dv (dv_ixT (d := v) (dv_var rfl) dv_int rfl) (ea_nil ⟨0, _, rfl, okm, ⟨l, f, c, v, L0, s, rfl, rfl, hl, hz2, fun hv => ⟨_, [], rfl, rfl, rfl, .inl ⟨rfl, step1_bad hv⟩⟩, fun hv => ⟨_, [], rfl, ?_⟩⟩⟩)))))))
      rw [step1_ok hv] at q
      exact q
    · refine ex_seq (ex_ifd (Dt.cast (act _ _ 2 _ (hsw 0)) (d' := false) (by decide +kernel)) (fun h => nomatch h) (fun _ => ex_next ?_))
      refine ex_seq (ex_ifd (Dt.cast (act _ _ 2 _ (hsw 1)) (d' := false) (by decide +kernel)) (fun h => nomatch h) (fun _ => ex_next ?_))
      refine ex_ret (ev_if (et_dt (Dt.cast (act _ _ 2 _ (hsw 2)) (d' := true) (by decide +kernel)) ⟨fun _ => ev_methT rfl (ev_callMX rfl (ea_cons (ev_var rfl (fun z => nomatch z) (ea_nil ⟨0, _, rfl, okm1, ⟨l, f, c, L0, s, rfl, rfl, hl, hz, ht, ⟨_, [], rfl, ?_⟩⟩⟩)))), fun h => nomatch h⟩))
      exact q
    · refine ex_seq (ex_ifd (Dt.cast (act _ _ 3 _ (hsw 0)) (d' := false) (by decide +kernel)) (fun h => nomatch h) (fun _ => ex_next ?_))
      refine ex_seq (ex_ifd (Dt.cast (act _ _ 3 _ (hsw 1)) (d' := false) (by decide +kernel)) (fun h => nomatch h) (fun _ => ex_next ?_))
      refine ex_ret (ev_if (et_dt (Dt.cast (act _ _ 3 _ (hsw 2)) (d' := false) (by decide +kernel)) ⟨fun h => absurd h (by decide), fun _ => ?_⟩))
      refine ev_methT rfl (ev_callMX rfl (ea_cons (ev_var rfl (fun z => nomatch z) (ea_nil ⟨0, _, rfl, okm1, ⟨_, L0, s, rfl, rfl, fun h0 => ⟨_, [], rfl, rfl, rfl, .inr (.inr ⟨rfl, ?_⟩)⟩, fun h0 => ⟨_, [], rfl, ?_⟩⟩⟩))))
      · subst h0; rfl
      · rw [step3_ok h0] at q
        exact q
  · obtain ⟨rfl, rfl, h⟩ := h
    rcases h with ⟨rfl, e⟩ | ⟨rfl, e⟩ | ⟨rfl, e⟩
    · refine ⟨t.t_InvalidAmount_FeeError, fun x => ?_⟩
      rw [e] at q
      refine ex_seq (ex_asg (ev_dv (dv_dl (dl_lst (da_cons (dv_isX rfl t.ec_InvalidAmount t.i_InvalidAmount_InvalidAmount) (da_cons (dv_isX rfl t.ec_InvalidAmount t.i_InvalidAmount_TooLate) (da_cons (dv_isX rfl t.ec_InvalidAmount t.i_InvalidAmount_NothingToUndo) da_nil))))) ?_))
      exact ex_ret (ev_dv (Dv.cast (dv_join (ys := ["amount"]) dv_str (Dv.cast (dv_dl (dl_lc [(("amount" : Str), true), ("late", false), ("undo", false)] (fun p => [.str p.1, .bool p.2]) (·.2) (fun p => .str p.1) (by decide) trivial (by decide) (dit_zipH (dv_dl (dl_lst (da_cons dv_str (da_cons dv_str (da_cons dv_str da_nil))))) (dv_var rfl) rfl) (fun p _ => dt_test (dv_var rfl)) fun p _ _ => dv_var rfl)) rfl) (by decide)) (congrArg PyData.str (by decide +kernel))) q)
    · refine ⟨t.t_TooLate_FeeError, fun x => ?_⟩
      rw [e] at q
      refine ex_seq (ex_asg (ev_dv (dv_dl (dl_lst (da_cons (dv_isX rfl t.ec_TooLate t.i_TooLate_InvalidAmount) (da_cons (dv_isX rfl t.ec_TooLate t.i_TooLate_TooLate) (da_cons (dv_isX rfl t.ec_TooLate t.i_TooLate_NothingToUndo) da_nil))))) ?_))
      exact ex_ret (ev_dv (Dv.cast (dv_join (ys := ["late"]) dv_str (Dv.cast (dv_dl (dl_lc [(("amount" : Str), false), ("late", true), ("undo", false)] (fun p => [.str p.1, .bool p.2]) (·.2) (fun p => .str p.1) (by decide) trivial (by decide) (dit_zipH (dv_dl (dl_lst (da_cons dv_str (da_cons dv_str (da_cons dv_str da_nil))))) (dv_var rfl) rfl) (fun p _ => dt_test (dv_var rfl)) fun p _ _ => dv_var rfl)) rfl) (by decide)) (congrArg PyData.str (by decide +kernel))) q)
    · refine ⟨t.t_NothingToUndo_FeeError, fun x => ?_⟩
      rw [e] at q
      refine ex_seq (ex_asg (ev_dv (dv_dl (dl_lst (da_cons (dv_isX rfl t.ec_NothingToUndo t.i_NothingToUndo_InvalidAmount) (da_cons (dv_isX rfl t.ec_NothingToUndo t.i_NothingToUndo_TooLate) (da_cons (dv_isX rfl t.ec_NothingToUndo t.i_NothingToUndo_NothingToUndo) da_nil))))) ?_))
      exact ex_ret (ev_dv (Dv.cast (dv_join (ys := ["undo"]) dv_str (Dv.cast (dv_dl (dl_lc [(("amount" : Str), false), ("late", false), ("undo", true)] (fun p => [.str p.1, .bool p.2]) (·.2) (fun p => .str p.1) (by decide) trivial (by decide) (dit_zipH (dv_dl (dl_lst (da_cons dv_str (da_cons dv_str (da_cons dv_str da_nil))))) (dv_var rfl) rfl) (fun p _ => dt_test (dv_var rfl)) fun p _ _ => dv_var rfl)) rfl) (by decide)) (congrArg PyData.str (by decide +kernel))) q)

def W_law (a : Ad) : Wd := fun ρ M Q X => ∃ ns : List Int, ρ = [.d (.list (ns.map .int))] ∧ M = [] ∧ ns.length ≤ 63 ∧ ∀ M' : List MO, Q (.d (.bool true)) M'
theorem ok_law (t : Tx K mg a) : FnOk P w K mg base L2.CX0 6 a.law a.fd_law ["script"] (spW K T (W_law a)) := by
  refine fn_ok0 t.F_law sc_law (fun ρ M Q X h => by obtain ⟨_, rfl, _⟩ := h; rfl) (by decide) fun cdv A outer s H E hr => ⟨_, (pss_cons (ps_set (i := 1) sc_law.nd rfl (.inl rfl) (pe_call (ok__law_bag (T := T) t) (hr.mono (by decide)) (by rfl) t.g__law_bag t.F__law_bag.kp t.b__law_bag .nil passN (pa_cons (pv 0) (pa_cons pe_int pa_nil))))
      (pss_cons (ps_set (i := 2) sc_law.nd rfl (.inl rfl) (pe_tup (pa_cons (pe_call (ok__law_of (T := T) t) (hr.mono (by decide)) (by rfl) t.g__law_of t.F__law_of.kp t.b__law_of .nil passN (pa_cons (pv 1) (pa_cons (pe_lst (pa_cons pe_int (pa_cons (pe_un un_neg pe_int) (pa_cons pe_int pa_nil)))) pa_nil))) (pa_cons (pe_call (ok__law_take (T := T) t) (hr.mono (by decide)) (by rfl) t.g__law_take t.F__law_take.kp t.b__law_take .nil passN (pa_cons (pv 1) (pa_cons pe_int pa_nil))) (pa_cons (pe_call (ok__law_of (T := T) t) (hr.mono (by decide)) (by rfl) t.g__law_of t.F__law_of.kp t.b__law_of .nil passN (pa_cons (pv 1) (pa_cons (pe_lst (pa_cons pe_non (pa_cons pe_int (pa_cons pe_int (pa_cons pe_int pa_nil))))) pa_nil))) pa_nil)))))
      (pss_cons (ps_set (i := 3) sc_law.nd rfl (.inl rfl) (pe_op op_sub (pe_call (ok__law_take (T := T) t) (hr.mono (by decide)) (by rfl) t.g__law_take t.F__law_take.kp t.b__law_take .nil passN (pa_cons (pv 1) (pa_cons pe_int pa_nil))) pe_int))
      (pss_cons (ps_par3 (i := 6) (j := 7) (l := 8) (by rfl) sc_law.nd rfl rfl rfl (by decide) (by decide) (by decide) rfl rfl rfl (pa_cons (pe_make (k := 4) t.mk_Account (ok_Account__init__ (T := T) t) (hr.mono (j := 5) (by decide)) (by rfl) t.g_Account t.b_Account__init__ .nil passN (pa_cons (pv 3) (pa_cons (pv 2) pa_nil))) (pa_cons (pe_make (k := 4) t.mk_Account (ok_Account__init__ (T := T) t) (hr.mono (j := 5) (by decide)) (by rfl) t.g_Account t.b_Account__init__ .nil passN (pa_cons (pv 3) (pa_cons (pv 2) pa_nil))) (pa_cons (pe_lst (pa_cons (pe_tup (pa_cons (pv 3) (pa_cons pe_int (pa_cons pe_int pa_nil)))) pa_nil)) pa_nil))) (by rfl))
      (pss_cons (ps_for PassesOwn.never rfl (pi_range1 (by rfl) t.m_range (pa_cons (pe_op op_add (pe_callB (call_min2 rfl) (by rfl) t.m_min (by decide +kernel) (pa_cons (pe_callB call_len_seq (by rfl) t.m_len (by decide +kernel) (pa_cons (pv 0) pa_nil)) (pa_cons pe_int pa_nil))) pe_int) pa_nil)) (pg_name (i := 4) sc_law.nd rfl (.inl rfl)) (pss_cons (ps_set (i := 1) sc_law.nd rfl (.inl rfl) (pe_call (ok__law_bag (T := T) t) (hr.mono (by decide)) (by rfl) t.g__law_bag t.F__law_bag.kp t.b__law_bag .nil passN (pa_cons (pv 0) (pa_cons (pv 4) pa_nil))))
      (pss_one (ps_for PassesOwn.never rfl (pi_range1 (by rfl) t.m_range (pa_cons pe_int pa_nil)) (pg_name (i := 9) sc_law.nd rfl (.inl rfl)) (pss_cons (ps_set (i := 10) sc_law.nd rfl (.inl rfl) (pe_call (ok__law_action (T := T) t) (hr.mono (by decide)) (by rfl) t.g__law_action t.F__law_action.kp t.b__law_action .nil passN (pa_cons (pv 1) pa_nil)))
      (pss_cons (ps_set (i := 11) sc_law.nd rfl (.inl rfl) (pe_call (ok__law_due (T := T) t) (hr.mono (by decide)) (by rfl) t.g__law_due t.F__law_due.kp t.b__law_due .nil passN (pa_cons (pv 2) (pa_cons (pv 8) (pa_cons (pv 10) pa_nil)))))
      (pss_cons (ps_set (i := 12) sc_law.nd rfl (.inl rfl) (pe_call (ok__law_did (T := T) t) (hr.mono (by decide)) (by rfl) t.g__law_did t.F__law_did.kp t.b__law_did .nil passN (pa_cons (pv 6) (pa_cons (pv 10) pa_nil))))
      (pss_cons (ps_if (PW.pt (pw_or (pt_cmpR (op_neD (hu_units hr)) (pv 12) (pv 11) (nomark _)) (pw_or1 (pt_cmpR (op_neD (hu_units hr)) (pe_callB call_isi (by rfl) t.m_isinstance (by decide +kernel) (pa_cons (pv 12) (pa_cons (pe_bltn (v := .ty "bool") (by rfl) t.m_bool (by decide +kernel) rfl) pa_nil))) (pe_callB call_isi (by rfl) t.m_isinstance (by decide +kernel) (pa_cons (pv 11) (pa_cons (pe_bltn (v := .ty "bool") (by rfl) t.m_bool (by decide +kernel) rfl) pa_nil))) (nomark _))))) (pss_one (ps_ret pe_bl)) pss_nil)
      (pss_cons (ps_asg (pe_ix ix_list (pv 8) (pe_un un_neg pe_int) (fun _ _ => rfl)) (pg_tup rfl (pgs_cons (pg_name (i := 13) sc_law.nd rfl (.inl rfl)) (pgs_cons (pg_name (i := 14) sc_law.nd rfl (.inl rfl)) (pgs_cons (pg_name (i := 15) sc_law.nd rfl (.inl rfl)) pgs_nil)))))
      (pss_cons (ps_if (PW.pt (pw_or (pt_cmpR (op_neD (hu_units hr)) (pe_meth0 (pv 6) t.cls_Account t.me_Account_balance (ok_Account_balance (T := T) t) (hr.mono (j := 1) (by decide)) t.b_Account_balance .nil passN) (pv 13) (nomark _)) (pw_or (pt_cmpR (op_neD (hu_units hr)) (pe_callB (call_lenO t.me_Account__len__ (ok_Account__len__ (T := T) t) (hr.mono (j := 2) (by decide)) t.b_Account__len__ passN) (by rfl) t.m_len (by decide +kernel) (pa_cons (pv 6) pa_nil)) (pv 14) (nomark _)) (pw_or1 (pt_cmpR (op_neD (hu_units hr)) (pe_meth0 (pv 6) t.cls_Account t.me_Account_charged (ok_Account_charged (T := T) t) (hr.mono (j := 1) (by decide)) t.b_Account_charged .nil passN) (pv 15) (nomark _)))))) (pss_one (ps_ret pe_bl)) pss_nil)
      (pss_one (ps_if (PW.pt (pw_or (pt_cmpR (op_neD (hu_units hr)) (pe_cmpR (op_eqO t.me_Account__eq__ t.st_Account (ok_Account__eq__ (T := T) t) (hr.mono (j := 3) (by decide)) t.b_Account__eq__ passN) (pv 6) (pv 7) (nomark _)) (pe_cmpR (op_eqD (hu_units hr)) (pe_ix ix_list (pv 8) (pe_un un_neg pe_int) (fun _ _ => rfl)) (pe_ix ix_list (pv 8) pe_int (fun _ _ => rfl)) (nomark _)) (nomark _)) (pw_or1 (pt_cmpR (op_eqO t.me_Account__eq__ t.st_Account (ok_Account__eq__ (T := T) t) (hr.mono (j := 3) (by decide)) t.b_Account__eq__ passN) (pv 6) (pe_ix ix_list (pv 8) (pe_un un_neg pe_int) (fun _ _ => rfl)) (nomark _))))) (pss_one (ps_ret pe_bl)) pss_nil))))))))))))
      (pss_cons (ps_while PassesOwn.never (pt_cmpR op_gt (pe_callB call_len_seq (by rfl) t.m_len (by decide +kernel) (pa_cons (pv 8) pa_nil)) pe_int (nomark _)) (pss_cons (ps_expr (pe_bm0 PySem.F.plainAttrs_list PySem.F.slot_list_pop PySem.F.type_list_pop mt_pop (pv 8)))
      (pss_one (ps_if (PW.pt (pw_or (pt_cmpR op_notN (pe_meth0 (pv 6) t.cls_Account t.me_Account_undo (ok_Account_undo (T := T) t) (hr.mono (j := 1) (by decide)) t.b_Account_undo .nil passN) pe_non (nomark _)) (pw_or1 (pt_cmpR (op_neD (hu_units hr)) (pe_meth0 (pv 6) t.cls_Account t.me_Account_balance (ok_Account_balance (T := T) t) (hr.mono (j := 1) (by decide)) t.b_Account_balance .nil passN) (pe_ix ix_tup (pe_ix ix_list (pv 8) (pe_un un_neg pe_int) (fun _ _ => rfl)) pe_int (fun _ _ => rfl)) (nomark _))))) (pss_one (ps_ret pe_bl)) pss_nil))))
      (pss_cons (ps_set (i := 5) sc_law.nd rfl (.inl rfl) (pe_tup (pa_cons (pe_ix ix_tup (pv 2) pe_int (fun _ _ => rfl)) (pa_cons (pe_op op_add (pe_ix ix_tup (pv 2) pe_int (fun _ _ => rfl)) pe_int) (pa_cons (pe_ix ix_tup (pv 2) pe_int (fun _ _ => rfl)) pa_nil)))))
      (pss_one (ps_ret (pe_and (pe_cmpR (op_eqO t.me_Account__eq__ t.st_Account (ok_Account__eq__ (T := T) t) (hr.mono (j := 3) (by decide)) t.b_Account__eq__ passN) (pv 6) (pv 7) (nomark _)) (pe_and (pe_not (pe_cmpR (op_eqO t.me_Account__eq__ t.st_Account (ok_Account__eq__ (T := T) t) (hr.mono (j := 3) (by decide)) t.b_Account__eq__ passN) (pv 6) (pe_make (k := 4) t.mk_Account (ok_Account__init__ (T := T) t) (hr.mono (j := 5) (by decide)) (by rfl) t.g_Account t.b_Account__init__ .nil passN (pa_cons (pv 3) (pa_cons (pv 5) pa_nil))) (nomark _))) (pe_one (pe_cmpR (op_eqD (hu_units hr)) (pe_call (ok__law_did (T := T) t) (hr.mono (by decide)) (by rfl) t.g__law_did t.F__law_did.kp t.b__law_did .nil passN (pa_cons (pv 6) (pa_cons (pe_tup (pa_cons pe_str (pa_cons pe_non pa_nil))) pa_nil))) pe_str (nomark _)))))))))))))), fun ρ M Q X hW => ?_⟩
  obtain ⟨ns, rfl, rfl, hn, q⟩ := hW
  refine ex_seq (ex_asg (ev_call0 (ea_da (da_cons (dv_var rfl) (da_cons dv_int da_nil)) ⟨notm1, ns, 0, rfl, rfl, by decide, by decide, ?_⟩)))
  show EX _ _ [.d (.list (ns.map .int)), .m 0, .un, .un, .un, .un, .un, .un, .un, .un, .un, .un, .un, .un, .un, .un] [bag] _
  refine ex_seq (ex_asg (ev_tup (ea_cons (ev_of [.int 0, .int (-20), .int 30] rfl rfl (da_cons dv_int (da_cons (Dv.cast (dv_un dv_int) (d' := .int (-20)) rfl) (da_cons dv_int da_nil))) (q := fun z1 hz1 => ea_cons (ev_take rfl rfl dv_int (by decide) (by decide) fun f f0 f1 => ea_cons (ev_of [.none, .int 0, .int 1, .int 2] rfl rfl (da_cons dv_non (da_cons dv_int (da_cons dv_int (da_cons dv_int da_nil)))) (q := fun c hc => ea_nil ⟨[z1, .int f, c], rfl, (show 3 ≤ sizeLine by decide), ?_⟩))))))))
  obtain ⟨l, rfl, ht, ht2⟩ : ∃ l, z1 = .int l ∧ TermsOk l f c ∧ TermsOk l (f + 1) c := by
    have hc' : CapOk c := by
      simp only [List.mem_cons, List.not_mem_nil, or_false] at hc
      rcases hc with rfl | rfl | rfl | rfl
      · trivial
      · exact ⟨by decide, by decide⟩
      · exact ⟨by decide, by decide⟩
      · exact ⟨by decide, by decide⟩
    simp only [List.mem_cons, List.not_mem_nil, or_false] at hz1
    rcases hz1 with rfl | rfl | rfl
    · exact ⟨_, rfl, ⟨by decide, by decide, f0, by omega, hc'⟩, ⟨by decide, by decide, by omega, by omega, hc'⟩⟩
    · exact ⟨_, rfl, ⟨by decide, by decide, f0, by omega, hc'⟩, ⟨by decide, by decide, by omega, by omega, hc'⟩⟩
    · exact ⟨_, rfl, ⟨by decide, by decide, f0, by omega, hc'⟩, ⟨by decide, by decide, by omega, by omega, hc'⟩⟩
  refine ex_seq (ex_asg (ev_i0 (ev_take rfl rfl dv_int (by decide) (by decide) fun z z0 z1 => ⟨_, rfl, ev_dv dv_int ⟨_, rfl, ?_⟩⟩)))
  have hb0 : isBal (.int (z - 50)) = true := isInt_int (by omega) (by omega)
  generalize z - 50 = b0 at hb0 ⊢
  have hok : okI (.int b0) (.tuple [.int l, .int f, c]) := ⟨hb0, isTerms_terms ht⟩
  have hok2 : okI (.int b0) (.tuple [.int l, .int (f + 1), c]) := ⟨hb0, isTerms_terms ht2⟩
  have hsh := terms_sh ht
  refine ex_seq (ex_par3 (ea_cons (ev_make (ea_da (da_cons (dv_var rfl) (da_cons (dv_var rfl) da_nil)) ⟨_, _, rfl, hok, ea_cons (ev_make (ea_da (da_cons (dv_var rfl) (da_cons (dv_var rfl) da_nil)) ⟨_, _, rfl, hok, ea_cons (ev_dl (dl_lst (da_cons (dv_tup (da_cons (dv_var rfl) (da_cons dv_int (da_cons dv_int da_nil)))) da_nil)) (ea_nil ⟨_, _, _, rfl, ?_⟩))⟩))⟩))))
  show EX _ _ (lw19 a.Account ns (.tuple [.int l, .int f, c]) b0 (.m 0) .un .un .un .un .un .un .un .un .un) [bag, .lst (pastI (.int b0)), .lst (pastI (.int b0)), .lst [.tuple [.int b0, .int 0, .int 0]]] _
  refine ex_cut (J := fun ρ' M' => ∃ L, ρ' = lw19 a.Account ns (.tuple [.int l, .int f, c]) b0 .un .un .un .un .un .un .un .un .un .un ∧ M'[1]? = some (.lst (L.map stD)) ∧ M'[2]? = some (.lst (([] ++ [(b0, [], 0)] : List St3).map stD)) ∧ M'[3]? = some (.lst (L.map soD)) ∧ GoodL 54 L (b0, [], 0)) ?_ ?_
  · refine EX.wk (ρ' := lw19 a.Account ns (.tuple [.int l, .int f, c]) b0 .un .un .un .un .un .un .un .un .un .un) ?_ (by repeat' first | exact Wk.nil | refine Wk.un ?_ | refine Wk.cons ?_)
    refine ex_for (it_rng1 (ea_da (da_cons (dv_i0 (dv_min2 (dv_len (dv_var rfl) rfl) dv_int) dv_int) da_nil) ⟨_, rfl, by omega, by omega, fun i ρ' M' => ∃ L, ρ' = lw19 a.Account ns (.tuple [.int l, .int f, c]) b0 .un .un .un .un .un .un .un .un .un .un ∧ M'[1]? = some (.lst (L.map stD)) ∧ M'[2]? = some (.lst (([] ++ [(b0, [], 0)] : List St3).map stD)) ∧ M'[3]? = some (.lst (L.map soD)) ∧ GoodL (6 * i) L (b0, [], 0), ⟨[(b0, [], 0)], rfl, rfl, rfl, rfl, good_0 b0⟩, fun _ _ _ _ => trivial, ?_, ?_⟩))
    · rintro k es ρ' M0 hi ⟨L, rfl, h1, h2, h3, hG⟩
      obtain ⟨d, hd', rfl⟩ := ones_get hi
      obtain ⟨hk, rfl⟩ := rngD_get hd'
      rw [Int.zero_add]
      refine ex_seq (ex_asg (ev_call0 (ea_da (da_cons (dv_var rfl) (da_cons (dv_var rfl) da_nil)) ⟨notm1, ns, k, rfl, rfl, by omega, by omega, ?_⟩)))
      show EX _ _ (lw19 a.Account ns (.tuple [.int l, .int f, c]) b0 (.m (0 + M0.length)) (.d (.int (k : Int))) .un .un .un .un .un .un .un .un) (M0 ++ [bag]) _
      rw [Nat.zero_add]
      have hmb : 3 < M0.length := (List.getElem?_eq_some_iff.mp h3).1
      have hbag : (M0 ++ [bag])[M0.length]? = some bag := by simp
      have h1 : (M0 ++ [bag])[1]? = _ := app_get h1
      have h2 : (M0 ++ [bag])[2]? = _ := app_get h2
      have h3 : (M0 ++ [bag])[3]? = _ := app_get h3
      generalize M0 ++ [bag] = M1 at hbag h1 h2 h3 ⊢
      generalize M0.length = mb at hbag hmb ⊢
      have hk8 : k ≤ 8 := by omega
      refine ex_for (it_rng1 (ea_da (da_cons dv_int da_nil) ⟨_, rfl, by decide, by decide, fun j ρ' M' => ∃ L, ρ' = lw19 a.Account ns (.tuple [.int l, .int f, c]) b0 (.m mb) (.d (.int (k : Int))) .un .un .un .un .un .un .un .un ∧ M'[1]? = some (.lst (L.map stD)) ∧ M'[2]? = some (.lst (([] ++ [(b0, [], 0)] : List St3).map stD)) ∧ M'[3]? = some (.lst (L.map soD)) ∧ M'[mb]? = some bag ∧ GoodL (6 * k + j) L (b0, [], 0), ⟨L, rfl, h1, h2, h3, hbag, hG⟩, fun _ _ _ _ => trivial, ?_, ?_⟩))
      · rintro j es ρ' M' hi ⟨L, rfl, h1, h2, h3, hbag, hG⟩
        obtain ⟨d, hd', rfl⟩ := ones_get hi
        obtain ⟨hj, rfl⟩ := rngD_get hd'
        rw [Int.zero_add]
        have hj6 : j < 6 := hj
        obtain ⟨L0, s, rfl⟩ := good_cut hG
        have hs := hG.2.1 s (List.mem_append_right _ (by simp))
        have hlen : L0.length + 1 ≤ 6 * k + j + 1 := by have := hG.1; rw [List.length_append] at this; exact this
        refine ex_seq (ex_asg (ev_bag (fun d => ∃ (k : Nat) (v : PyData), k < 4 ∧ d = .tuple [.str (kW k), v]) rfl hbag da_nil (fun Q' q' => ⟨rfl, rfl, fun k v hk => q' _ ⟨k, v, hk, rfl⟩⟩) fun d hd => ?_))
        obtain ⟨ka, v, hka, rfl⟩ := hd
        have hT : Told (stepA l f c L0 s ka v).1 := told_step
        have hG2 := good_step (l := l) (f := f) (c := c) (k := ka) (v := v) hG
        refine ex_seq (ex_asg (ev_callM (ea_cons (ev_var rfl (fun z => nomatch z) (ea_cons (ev_var rfl (fun z => nomatch z) (ea_cons (ev_var rfl (fun z => nomatch z) (ea_nil ⟨3, _, h3, fun s' hs' => (by
          simp only [List.mem_cons, List.not_mem_nil, or_false] at hs'
          rcases hs' with rfl | rfl | rfl
          · trivial
          · exact rfl
          · trivial), ⟨l, f, c, L0, s, ka, v, rfl, rfl, ht, by omega, by omega, hs.1, hka, ⟨_, [], rfl, ?_⟩⟩⟩)))))))))
        rw [List.append_nil]
        have g1 : (M'.set 3 (.lst ((stepA l f c L0 s ka v).2.map soD)))[1]? = _ := set_at h1 (by decide)
        have g2 : (M'.set 3 (.lst ((stepA l f c L0 s ka v).2.map soD)))[2]? = _ := set_at h2 (by decide)
        have g3 : (M'.set 3 (.lst ((stepA l f c L0 s ka v).2.map soD)))[3]? = _ := set_me h3
        have gb : (M'.set 3 (.lst ((stepA l f c L0 s ka v).2.map soD)))[mb]? = _ := set_at hbag (by omega)
        generalize M'.set 3 (.lst ((stepA l f c L0 s ka v).2.map soD)) = M2 at g1 g2 g3 gb ⊢
        refine ex_seq (ex_asg (ev_callM (ea_cons (ev_var rfl (fun z => nomatch z) (ea_cons (ev_var rfl (fun z => nomatch z) (ea_nil ⟨1, _, g1, fun s' hs' => (by
          simp only [List.mem_cons, List.not_mem_nil, or_false] at hs'
          rcases hs' with rfl | rfl
          · exact ⟨trivial, rfl⟩
          · trivial), ⟨l, f, c, L0, s, ka, v, rfl, rfl, ht, by omega, by omega, by omega, hka, ⟨_, [], rfl, ?_⟩⟩⟩)))))))
        rw [List.append_nil]
        have k2 : (M2.set 1 (.lst ((stepA l f c L0 s ka v).2.map stD)))[2]? = _ := set_at g2 (by decide)
        have k3 : (M2.set 1 (.lst ((stepA l f c L0 s ka v).2.map stD)))[3]? = _ := set_at g3 (by decide)
        have kb : (M2.set 1 (.lst ((stepA l f c L0 s ka v).2.map stD)))[mb]? = _ := set_at gb (by omega)
        have k1 : (M2.set 1 (.lst ((stepA l f c L0 s ka v).2.map stD)))[1]? = _ := set_me g1
        generalize M2.set 1 (.lst ((stepA l f c L0 s ka v).2.map stD)) = M3 at k1 k2 k3 kb ⊢
        show EX _ _ (lw19 a.Account ns (.tuple [.int l, .int f, c]) b0 (.m mb) (.d (.int (k : Int))) .un (.d (.int (j : Int))) (.d (.tuple [.str (kW ka), v])) (.d (stepA l f c L0 s ka v).1) (.d (stepA l f c L0 s ka v).1) .un .un .un) M3 _
        generalize stepA l f c L0 s ka v = res at hT hG2 k1 k3 ⊢
        obtain ⟨d, L2⟩ := res
        obtain ⟨L1, s1, rfl⟩ := good_cut hG2
        have hs1 := hG2.2.1 s1 (List.mem_append_right _ (by simp))
        have h1000 : s1.2.1.length ≤ 1000 := by omega
        have hT : Told d := hT
        refine ex_seq (ex_ifd (b := false) (Dt.cast (dt_or (dt_test (dv_neD (dv_var rfl) (dv_var rfl) hT.1 hT.1)) fun _ => dt_test (dv_neD (dv_isi (dv_var rfl) (kit_bool d)) (dv_isi (dv_var rfl) (kit_bool d)) rfl rfl)) (by rw [hT.2, eqv_bools, decide_eq_true rfl]; rfl)) (fun h => nomatch h) (fun _ => ex_next ?_))
        refine ex_seq (ex_asgT (js := [13, 14, 15]) (ev_dv (dv_ixM rfl k3 (Dv.cast (dv_un dv_int) (d' := .int (-1)) rfl) (atD_lastM soD L1 s1)) ⟨_, rfl, rfl, rfl, ?_⟩))
        show EX _ _ (lw19 a.Account ns (.tuple [.int l, .int f, c]) b0 (.m mb) (.d (.int (k : Int))) .un (.d (.int (j : Int))) (.d (.tuple [.str (kW ka), v])) (.d d) (.d d) (.d (.int s1.1)) (.d (.int (s1.2.1.length : Int))) (.d (.int (s1.2.2 : Int)))) M3 _
        refine ex_seq (ex_ifd (b := false) (Dt.cast (dt_or (dt_test (dv_neD (dv_methR (d := .int s1.1) rfl (.ob rfl ⟨_, k1, rfl⟩) rfl (fun Q' q' => ⟨_, L1, s1, rfl, rfl, q'⟩)) (dv_var rfl) rfl rfl)) fun _ => dt_or (dt_test (dv_neD (dv_lenO (n := s1.2.1.length) rfl (.ob rfl ⟨_, k1, rfl⟩) (by omega) (fun Q' q' => ⟨_, L1, s1, rfl, rfl, q'⟩)) (dv_var rfl) rfl rfl)) fun _ => dt_test (dv_neD (dv_methR (d := .int (s1.2.2 : Int)) rfl (.ob rfl ⟨_, k1, rfl⟩) rfl (fun Q' q' => ⟨_, L1, s1, rfl, rfl, q'⟩)) (dv_var rfl) rfl rfl)) (by rw [eqv_ii, eqv_ii, eqv_ii, decide_eq_true rfl, decide_eq_true rfl, decide_eq_true rfl]; rfl)) (fun h => nomatch h) (fun _ => ex_next ?_))
        refine ex_ifd (b := false) (Dt.cast (dt_or (dt_test (dv_neD (dv_eqO (W := W_Account__eq__ a) (r := sameB s1 (b0, [], 0)) rfl (ev_var rfl (fun z => nomatch z) ⟨rfl, rfl⟩) (.inl ⟨_, _, rfl⟩) (.ob rfl ⟨_, k1, rfl⟩) (.ob rfl ⟨_, k2, rfl⟩) (fun Q' q' => ⟨_, L1, s1, _, rfl, rfl, h1000, .inl ⟨_, [], (b0, [], 0), rfl, Nat.zero_le _, hsh, hsh, by rw [terms_rf ht, Bool.true_and]; exact q'⟩⟩)) (dv_eqD (dv_ixM rfl k3 (Dv.cast (dv_un dv_int) (d' := .int (-1)) rfl) (atD_lastM soD L1 s1)) (dv_ixM rfl k3 dv_int (atD_head hG2.2.2)) rfl rfl) rfl rfl)) fun _ => dt_test (dv_eqO (W := W_Account__eq__ a) (r := false) rfl (ev_dv (dv_ixM rfl k3 (Dv.cast (dv_un dv_int) (d' := .int (-1)) rfl) (atD_lastM soD L1 s1)) ⟨rfl, rfl⟩) (.inr ⟨_, rfl⟩) (.ob rfl ⟨_, k1, rfl⟩) (.d _) (fun Q' q' => ⟨_, L1, s1, _, rfl, rfl, h1000, .inr ⟨_, rfl, q'⟩⟩))) (by rw [eqv_so, eqv_bools, decide_eq_true rfl]; rfl)) (fun h => nomatch h) (fun _ => ex_next ⟨lw19 a.Account ns (.tuple [.int l, .int f, c]) b0 (.m mb) (.d (.int (k : Int))) .un .un .un .un .un .un .un .un, (by repeat' first | exact Wk.nil | refine Wk.cons ?_ | refine Wk.un ?_), L1 ++ [s1], rfl, k1, k2, k3, kb, hG2⟩)
      · rintro ρ2 M2 ⟨L, rfl, h1, h2, h3, hbag, hG⟩
        exact ⟨lw19 a.Account ns (.tuple [.int l, .int f, c]) b0 .un .un .un .un .un .un .un .un .un .un, (by repeat' first | exact Wk.nil | refine Wk.cons ?_ | refine Wk.un ?_), L, rfl, h1, h2, h3, hG⟩
    · rintro ρ2 M2 ⟨L, rfl, h1, h2, h3, hG⟩
      refine ⟨L, rfl, h1, h2, h3, good_le hG ?_⟩
      unfold ones
      rw [List.length_map, rngD_len]
      omega
  · rintro ρ' M0 ⟨L, rfl, h1, h2, h3, hG⟩
    refine ex_seq (ex_while (fun n ρ' M' => ∃ L, ρ' = lw19 a.Account ns (.tuple [.int l, .int f, c]) b0 .un .un .un .un .un .un .un .un .un .un ∧ M'[1]? = some (.lst (L.map stD)) ∧ M'[2]? = some (.lst (([] ++ [(b0, [], 0)] : List St3).map stD)) ∧ M'[3]? = some (.lst (L.map soD)) ∧ n = L.length ∧ GoodL 54 L (b0, [], 0)) ⟨_, L, rfl, h1, h2, h3, rfl, hG⟩ ?_)
    rintro n ρ' M' ⟨L, rfl, h1, h2, h3, rfl, hG⟩
    obtain ⟨L0, s, rfl⟩ := good_cut hG
    refine et_dt (dt_test (dv_b0 (dv_lenM rfl h3) dv_int)) ⟨fun h => ?_, fun h => ?_⟩
    · have hne : L0 ≠ [] := by
        rintro rfl
        exact absurd (of_decide_eq_true h) (by simp)
      have hG0 := good_pop hG hne
      obtain ⟨L1, s1, rfl⟩ := good_cut hG0
      refine ex_seq (ex_popE (dm_var rfl) h3 (by rw [List.length_map, List.length_append]; exact Nat.succ_pos _) ?_)
      have e : ((L1 ++ [s1] ++ [s]).map soD).dropLast = (L1 ++ [s1]).map soD := by rw [List.map_append]; exact List.dropLast_concat
      rw [e]
      have g1 : (M'.set 3 (.lst ((L1 ++ [s1]).map soD)))[1]? = _ := set_at h1 (by decide)
      have g2 : (M'.set 3 (.lst ((L1 ++ [s1]).map soD)))[2]? = _ := set_at h2 (by decide)
      have g3 : (M'.set 3 (.lst ((L1 ++ [s1]).map soD)))[3]? = _ := set_me h3
      generalize M'.set 3 (.lst ((L1 ++ [s1]).map soD)) = M2 at g1 g2 g3 ⊢
      refine ex_if (et_or (et_test (ev_notN (ev_methM rfl (ev_callM (ea_cons (ev_var rfl (fun z => nomatch z) (ea_nil ⟨1, _, g1, fun s' hs' => (by
          simp only [List.map_cons, List.map_nil, List.mem_cons, List.not_mem_nil, or_false] at hs'
          subst hs'
          exact ⟨trivial, rfl⟩), ⟨_, L1 ++ [s1], s, rfl, rfl, fun h0 => absurd h0 (by simp), fun _ => ⟨_, [], rfl, ⟨.none, rfl, ⟨false, rfl, ⟨fun h => absurd h (by decide), fun _ => ?_⟩⟩⟩⟩⟩⟩))))))))
      rw [List.append_nil]
      have k2 : (M2.set 1 (.lst ((L1 ++ [s1]).map stD)))[2]? = _ := set_at g2 (by decide)
      have k3 : (M2.set 1 (.lst ((L1 ++ [s1]).map stD)))[3]? = _ := set_at g3 (by decide)
      have k1 : (M2.set 1 (.lst ((L1 ++ [s1]).map stD)))[1]? = _ := set_me g1
      generalize M2.set 1 (.lst ((L1 ++ [s1]).map stD)) = M3 at k1 k2 k3 ⊢
      refine et_dt (b := false) (Dt.cast (dt_test (dv_neD (dv_methR (d := .int s1.1) rfl (.ob rfl ⟨_, k1, rfl⟩) rfl (fun Q' q' => ⟨_, L1, s1, rfl, rfl, q'⟩)) (dv_ixT (d := .int s1.1) (dv_ixM rfl k3 (Dv.cast (dv_un dv_int) (d' := .int (-1)) rfl) (atD_lastM soD L1 s1)) dv_int rfl) rfl rfl)) (by rw [eqv_ii, decide_eq_true rfl]; rfl)) ⟨fun h => absurd h (by decide), fun _ => ex_next ⟨_, _, ?_, Wk.refl _, L1 ++ [s1], rfl, k1, k2, k3, rfl, hG0⟩⟩
      rw [List.length_append (bs := [s])]
      exact Nat.lt_succ_self _
    · have hL : L0 = [] := by
        cases L0 with
        | nil => rfl
        | cons y r => exact absurd (of_decide_eq_false h) (by simp; omega)
      subst hL
      obtain rfl : s = (b0, [], 0) := by
        have := hG.2.2
        exact Option.some.inj this
      refine ex_seq (ex_asg (ev_dv (dv_tup (da_cons (dv_ixT (d := .int l) (dv_var rfl) dv_int rfl) (da_cons (dv_i0 (dv_ixT (d := .int f) (dv_var rfl) dv_int rfl) dv_int) (da_cons (dv_ixT (d := c) (dv_var rfl) dv_int rfl) da_nil)))) ?_))
      show EX _ _ (lw19 a.Account ns (.tuple [.int l, .int f, c]) b0 .un .un (.d (.tuple [.int l, .int (f + 1), c])) .un .un .un .un .un .un .un) M' _
      refine ex_ret (ev_andV (ev_dv (dv_eqO (W := W_Account__eq__ a) (r := true) rfl (ev_var rfl (fun z => nomatch z) ⟨rfl, rfl⟩) (.inl ⟨_, _, rfl⟩) (.ob rfl ⟨_, h1, rfl⟩) (.ob rfl ⟨_, h2, rfl⟩) (fun Q' q' => ⟨_, [], (b0, [], 0), _, rfl, rfl, Nat.zero_le _, .inl ⟨_, [], (b0, [], 0), rfl, Nat.zero_le _, hsh, hsh, by rw [terms_rf ht, sameB_rf]; exact q'⟩⟩)) ⟨true, rfl, fun _ => ?_, fun h => absurd h (by decide)⟩))
      refine ev_andV (ev_notV (ev_eqO (W := W_Account__eq__ a) (n1 := "terms") (n2 := "past") (ev_var rfl (fun z => nomatch z) (ev_make (ea_da (da_cons (dv_var rfl) (da_cons (dv_var rfl) da_nil)) ⟨_, _, rfl, hok2, ⟨⟨_, _, rfl⟩, .inl ⟨_, _, rfl⟩, _, _, false, .ob rfl ⟨_, app_get h1, rfl⟩, .ob rfl ⟨_, app_last, rfl⟩, fun Q' q' => ⟨_, [], (b0, [], 0), _, rfl, rfl, Nat.zero_le _, .inl ⟨_, [], (b0, [], 0), rfl, Nat.zero_le _, hsh, terms_sh ht2, by rw [terms_ne, Bool.false_and]; exact q'⟩⟩, ⟨false, rfl, ⟨true, rfl, fun _ => ?_, fun h => absurd h (by decide)⟩⟩⟩⟩)))))
      have k1 := app_get (r := [MO.lst (pastI (.int b0))]) h1
      refine ev_eq (ev_callM (ea_cons (ev_var rfl (fun z => nomatch z) (ea_da (da_cons (dv_tup (da_cons dv_str (da_cons dv_non da_nil))) da_nil) ⟨1, _, k1, fun s' hs' => (by
        simp only [List.map_cons, List.map_nil, List.mem_cons, List.not_mem_nil, or_false] at hs'
        rcases hs' with rfl | rfl
        · exact ⟨trivial, rfl⟩
        · trivial), ⟨l, f, c, [], (b0, [], 0), 3, .none, rfl, rfl, ht, Nat.zero_le _, Nat.zero_le _, Nat.zero_le _, by decide, ⟨_, [], rfl, ⟨.str "undo", rfl, by decide +kernel, ev_dv dv_str ⟨.str "undo", rfl, by decide +kernel, ?_⟩⟩⟩⟩⟩))))
      rw [eqv_str, decide_eq_true rfl]
      exact q _

end
theorem factsL {P : Program} {w : World} {K : PySem.W.Frag} {h : Heap} {mg : Str → Option Value} {f : Addr} (X : K.In h) (G : h.Ns mainGlobals mg) (hfa : mg ("law" : Str) = some (.ref f)) (c : He.SaysD faL fnL K) (cx : exL K = true) :
    ∃ (a : Ad) (fd : FuncData), (∀ (s : Shared) (v : Value), BindsTo s fd ⟨[v], []⟩ [("script", v)]) ∧ ∀ base : Heap, K.In base → base.Ns mainGlobals mg → FnOk P w K mg base L2.CX0 6 f fd ["script"] (spW K [] (W_law a)) := by
  have e := hfa.symm.trans (He.glo_ok X G (c.fact 11 (f := .glo "law") rfl))
  cases e
  obtain ⟨fd0, F0⟩ := c.def_ 0 (d := d_is_integer) rfl
  obtain ⟨fd1, F1⟩ := c.def_ 1 (d := d_require_balance) rfl
  obtain ⟨fd2, F2⟩ := c.def_ 2 (d := d_is_terms) rfl
  obtain ⟨fd3, F3⟩ := c.def_ 3 (d := d_require_terms) rfl
  obtain ⟨fd4, F4⟩ := c.def_ 4 (d := d_Account__init__) rfl
  obtain ⟨fd5, F5⟩ := c.def_ 5 (d := d_Account_credit) rfl
  obtain ⟨fd6, F6⟩ := c.def_ 6 (d := d_Account_debit) rfl
  obtain ⟨fd7, F7⟩ := c.def_ 7 (d := d_fees_for) rfl
  obtain ⟨fd8, F8⟩ := c.def_ 8 (d := d_Account_end_day) rfl
  obtain ⟨fd9, F9⟩ := c.def_ 9 (d := d_Account_undo) rfl
  obtain ⟨fd10, F10⟩ := c.def_ 10 (d := d_Account__len__) rfl
  obtain ⟨fd11, F11⟩ := c.def_ 11 (d := d_Account_balance) rfl
  obtain ⟨fd12, F12⟩ := c.def_ 12 (d := d_Account_charged) rfl
  obtain ⟨fd13, F13⟩ := c.def_ 13 (d := d_Account__eq__) rfl
  obtain ⟨fd14, F14⟩ := c.def_ 14 (d := d__law_bag) rfl
  obtain ⟨fd15, F15⟩ := c.def_ 15 (d := d__law_take) rfl
  obtain ⟨fd16, F16⟩ := c.def_ 16 (d := d__law_of) rfl
  obtain ⟨fd17, F17⟩ := c.def_ 17 (d := d__law_action) rfl
  obtain ⟨fd18, F18⟩ := c.def_ 18 (d := d__law_due) rfl
  obtain ⟨fd19, F19⟩ := c.def_ 19 (d := d__law_did) rfl
  obtain ⟨fd20, F20⟩ := c.def_ 20 (d := d_law) rfl
  have bL := FunD.bindsA (ps := ["script"]) F20 fun _ _ _ _ _ _ us hl => match us, hl with | [_], _ => rfl
  refine ⟨{ is_integer := He.ga K "is_integer", fd_is_integer := fd0, require_balance := He.ga K "require_balance", fd_require_balance := fd1, is_terms := He.ga K "is_terms", fd_is_terms := fd2, require_terms := He.ga K "require_terms", fd_require_terms := fd3, Account__init__ := He.ma K (He.ga K "Account") "__init__", fd_Account__init__ := fd4, Account_credit := He.ma K (He.ga K "Account") "credit", fd_Account_credit := fd5, Account_debit := He.ma K (He.ga K "Account") "debit", fd_Account_debit := fd6, fees_for := He.ga K "fees_for", fd_fees_for := fd7, Account_end_day := He.ma K (He.ga K "Account") "end_day", fd_Account_end_day := fd8, Account_undo := He.ma K (He.ga K "Account") "undo", fd_Account_undo := fd9, Account__len__ := He.ma K (He.ga K "Account") "__len__", fd_Account__len__ := fd10, Account_balance := He.ma K (He.ga K "Account") "balance", fd_Account_balance := fd11, Account_charged := He.ma K (He.ga K "Account") "charged", fd_Account_charged := fd12, Account__eq__ := He.ma K (He.ga K "Account") "__eq__", fd_Account__eq__ := fd13, _law_bag := He.ga K "_law_bag", fd__law_bag := fd14, _law_take := He.ga K "_law_take", fd__law_take := fd15, _law_of := He.ga K "_law_of", fd__law_of := fd16, _law_action := He.ga K "_law_action", fd__law_action := fd17, _law_due := He.ga K "_law_due", fd__law_due := fd18, _law_did := He.ga K "_law_did", fd__law_did := fd19, law := He.ga K "law", fd_law := fd20, Account := He.ga K "Account", FeeError := He.ga K "FeeError", InvalidAmount := He.ga K "InvalidAmount", InvalidBalance := He.ga K "InvalidBalance", InvalidTerms := He.ga K "InvalidTerms", NothingToUndo := He.ga K "NothingToUndo", TooLate := He.ga K "TooLate" }, fd20, fun s v => bL s [v] rfl, fun base _ _ => ok_law (T := []) (a := { is_integer := He.ga K "is_integer", fd_is_integer := fd0, require_balance := He.ga K "require_balance", fd_require_balance := fd1, is_terms := He.ga K "is_terms", fd_is_terms := fd2, require_terms := He.ga K "require_terms", fd_require_terms := fd3, Account__init__ := He.ma K (He.ga K "Account") "__init__", fd_Account__init__ := fd4, Account_credit := He.ma K (He.ga K "Account") "credit", fd_Account_credit := fd5, Account_debit := He.ma K (He.ga K "Account") "debit", fd_Account_debit := fd6, fees_for := He.ga K "fees_for", fd_fees_for := fd7, Account_end_day := He.ma K (He.ga K "Account") "end_day", fd_Account_end_day := fd8, Account_undo := He.ma K (He.ga K "Account") "undo", fd_Account_undo := fd9, Account__len__ := He.ma K (He.ga K "Account") "__len__", fd_Account__len__ := fd10, Account_balance := He.ma K (He.ga K "Account") "balance", fd_Account_balance := fd11, Account_charged := He.ma K (He.ga K "Account") "charged", fd_Account_charged := fd12, Account__eq__ := He.ma K (He.ga K "Account") "__eq__", fd_Account__eq__ := fd13, _law_bag := He.ga K "_law_bag", fd__law_bag := fd14, _law_take := He.ga K "_law_take", fd__law_take := fd15, _law_of := He.ga K "_law_of", fd__law_of := fd16, _law_action := He.ga K "_law_action", fd__law_action := fd17, _law_due := He.ga K "_law_due", fd__law_due := fd18, _law_did := He.ga K "_law_did", fd__law_did := fd19, law := He.ga K "law", fd_law := fd20, Account := He.ga K "Account", FeeError := He.ga K "FeeError", InvalidAmount := He.ga K "InvalidAmount", InvalidBalance := He.ga K "InvalidBalance", InvalidTerms := He.ga K "InvalidTerms", NothingToUndo := He.ga K "NothingToUndo", TooLate := He.ga K "TooLate" }) ?_⟩
  exact {
    F_is_integer := He5.fun_of F0
    g_is_integer := He.glo_ok X G (c.fact 0 (f := .glo "is_integer") rfl)
    b_is_integer := FunD.bindsN F0 fun _ _ _ _ _ _ us hl => match us, hl with | [_, _, _], _ => rfl
    F_require_balance := He5.fun_of F1
    g_require_balance := He.glo_ok X G (c.fact 1 (f := .glo "require_balance") rfl)
    b_require_balance := FunD.bindsN F1 fun _ _ _ _ _ _ us hl => match us, hl with | [_], _ => rfl
    F_is_terms := He5.fun_of F2
    g_is_terms := He.glo_ok X G (c.fact 2 (f := .glo "is_terms") rfl)
    b_is_terms := FunD.bindsN F2 fun _ _ _ _ _ _ us hl => match us, hl with | [_], _ => rfl
    F_require_terms := He5.fun_of F3
    g_require_terms := He.glo_ok X G (c.fact 3 (f := .glo "require_terms") rfl)
    b_require_terms := FunD.bindsN F3 fun _ _ _ _ _ _ us hl => match us, hl with | [_], _ => rfl
    F_Account__init__ := He5.fun_of F4
    mk_Account := He.mkr_ok (c.fact 12 (f := .mkr "Account") rfl)
    b_Account__init__ := FunD.bindsN F4 fun _ _ _ _ _ _ us hl => match us, hl with | [_, _, _], _ => rfl
    F_Account_credit := He5.fun_of F5
    me_Account_credit := He.meth_ok (c.fact 13 (f := .meth "Account" "credit") rfl)
    b_Account_credit := FunD.bindsN F5 fun _ _ _ _ _ _ us hl => match us, hl with | [_, _], _ => rfl
    F_Account_debit := He5.fun_of F6
    me_Account_debit := He.meth_ok (c.fact 14 (f := .meth "Account" "debit") rfl)
    b_Account_debit := FunD.bindsN F6 fun _ _ _ _ _ _ us hl => match us, hl with | [_, _], _ => rfl
    F_fees_for := He5.fun_of F7
    g_fees_for := He.glo_ok X G (c.fact 4 (f := .glo "fees_for") rfl)
    b_fees_for := FunD.bindsN F7 fun _ _ _ _ _ _ us hl => match us, hl with | [_, _], _ => rfl
    F_Account_end_day := He5.fun_of F8
    me_Account_end_day := He.meth_ok (c.fact 15 (f := .meth "Account" "end_day") rfl)
    b_Account_end_day := FunD.bindsN F8 fun _ _ _ _ _ _ us hl => match us, hl with | [_], _ => rfl
    F_Account_undo := He5.fun_of F9
    me_Account_undo := He.meth_ok (c.fact 16 (f := .meth "Account" "undo") rfl)
    b_Account_undo := FunD.bindsN F9 fun _ _ _ _ _ _ us hl => match us, hl with | [_], _ => rfl
    F_Account__len__ := He5.fun_of F10
    me_Account__len__ := He.meth_ok (c.fact 17 (f := .meth "Account" "__len__") rfl)
    b_Account__len__ := FunD.bindsN F10 fun _ _ _ _ _ _ us hl => match us, hl with | [_], _ => rfl
    F_Account_balance := He5.fun_of F11
    me_Account_balance := He.meth_ok (c.fact 18 (f := .meth "Account" "balance") rfl)
    b_Account_balance := FunD.bindsN F11 fun _ _ _ _ _ _ us hl => match us, hl with | [_], _ => rfl
    F_Account_charged := He5.fun_of F12
    me_Account_charged := He.meth_ok (c.fact 19 (f := .meth "Account" "charged") rfl)
    b_Account_charged := FunD.bindsN F12 fun _ _ _ _ _ _ us hl => match us, hl with | [_], _ => rfl
    F_Account__eq__ := He5.fun_of F13
    me_Account__eq__ := He.meth_ok (c.fact 20 (f := .meth "Account" "__eq__") rfl)
    b_Account__eq__ := FunD.bindsN F13 fun _ _ _ _ _ _ us hl => match us, hl with | [_, _], _ => rfl
    F__law_bag := He5.fun_of F14
    g__law_bag := He.glo_ok X G (c.fact 5 (f := .glo "_law_bag") rfl)
    b__law_bag := FunD.bindsN F14 fun _ _ _ _ _ _ us hl => match us, hl with | [_, _], _ => rfl
    F__law_take := He5.fun_of F15
    g__law_take := He.glo_ok X G (c.fact 6 (f := .glo "_law_take") rfl)
    b__law_take := FunD.bindsN F15 fun _ _ _ _ _ _ us hl => match us, hl with | [_, _], _ => rfl
    F__law_of := He5.fun_of F16
    g__law_of := He.glo_ok X G (c.fact 7 (f := .glo "_law_of") rfl)
    b__law_of := FunD.bindsN F16 fun _ _ _ _ _ _ us hl => match us, hl with | [_, _], _ => rfl
    F__law_action := He5.fun_of F17
    g__law_action := He.glo_ok X G (c.fact 8 (f := .glo "_law_action") rfl)
    b__law_action := FunD.bindsN F17 fun _ _ _ _ _ _ us hl => match us, hl with | [_], _ => rfl
    F__law_due := He5.fun_of F18
    g__law_due := He.glo_ok X G (c.fact 9 (f := .glo "_law_due") rfl)
    b__law_due := FunD.bindsN F18 fun _ _ _ _ _ _ us hl => match us, hl with | [_, _, _], _ => rfl
    F__law_did := He5.fun_of F19
    g__law_did := He.glo_ok X G (c.fact 10 (f := .glo "_law_did") rfl)
    b__law_did := FunD.bindsN F19 fun _ _ _ _ _ _ us hl => match us, hl with | [_, _], _ => rfl
    F_law := He5.fun_of F20
    b_law := FunD.bindsN F20 fun _ _ _ _ _ _ us hl => match us, hl with | [_], _ => rfl
    cls_Account := He.cls_ok (c.fact 21 (f := .cls "Account") rfl)
    na_Account_terms := He.noat_ok (c.fact 22 (f := .noat "Account" "terms") rfl)
    na_Account_past := He.noat_ok (c.fact 23 (f := .noat "Account" "past") rfl)
    st_Account := of_decide_eq_true (ex_at cx 12)
    ca_Account := of_decide_eq_true (ex_at cx 13)
    cn_Account := of_decide_eq_true (ex_at cx 14)
    ct_Account := of_decide_eq_true (ex_at cx 15)
    cm_Account := of_decide_eq_true (ex_at cx 16)
    ck_Account := of_decide_eq_true (ex_at cx 17)
    cf_Account := of_decide_eq_true (ex_at cx 18)
    m_bool := He.free_ok X G (c.fact 31 (f := .free "bool") rfl)
    m_int := He.free_ok X G (c.fact 32 (f := .free "int") rfl)
    m_isinstance := He.free_ok X G (c.fact 33 (f := .free "isinstance") rfl)
    m_len := He.free_ok X G (c.fact 34 (f := .free "len") rfl)
    m_min := He.free_ok X G (c.fact 35 (f := .free "min") rfl)
    m_range := He.free_ok X G (c.fact 36 (f := .free "range") rfl)
    m_tuple := He.free_ok X G (c.fact 37 (f := .free "tuple") rfl)
    m_zip := He.free_ok X G (c.fact 38 (f := .free "zip") rfl)
    c_AMOUNT := He.int_ok X G (c.fact 39 (f := .int "AMOUNT" 1000000) rfl)
    c_BALANCE := He.int_ok X G (c.fact 40 (f := .int "BALANCE" 1000000000) rfl)
    c_DEBITS := He.int_ok X G (c.fact 41 (f := .int "DEBITS" 10) rfl)
    c_FEE := He.int_ok X G (c.fact 42 (f := .int "FEE" 100000) rfl)
    c_LIMIT := He.int_ok X G (c.fact 43 (f := .int "LIMIT" 1000000) rfl)
    g_Account := He.glo_ok X G (c.fact 24 (f := .glo "Account") rfl)
    g_FeeError := He.glo_ok X G (c.fact 25 (f := .glo "FeeError") rfl)
    g_InvalidAmount := He.glo_ok X G (c.fact 26 (f := .glo "InvalidAmount") rfl)
    g_InvalidBalance := He.glo_ok X G (c.fact 27 (f := .glo "InvalidBalance") rfl)
    g_InvalidTerms := He.glo_ok X G (c.fact 28 (f := .glo "InvalidTerms") rfl)
    g_NothingToUndo := He.glo_ok X G (c.fact 29 (f := .glo "NothingToUndo") rfl)
    g_TooLate := He.glo_ok X G (c.fact 30 (f := .glo "TooLate") rfl)
    x_InvalidAmount := (He.exc_ok (c.fact 44 (f := .exc "InvalidAmount") rfl)).1
    k_InvalidAmount := (He.exc_ok (c.fact 44 (f := .exc "InvalidAmount") rfl)).2.1
    e_InvalidAmount := (He.exc_ok (c.fact 44 (f := .exc "InvalidAmount") rfl)).2.2.1
    y_InvalidAmount := (He.exc_ok (c.fact 44 (f := .exc "InvalidAmount") rfl)).2.2.2
    x_InvalidBalance := (He.exc_ok (c.fact 45 (f := .exc "InvalidBalance") rfl)).1
    k_InvalidBalance := (He.exc_ok (c.fact 45 (f := .exc "InvalidBalance") rfl)).2.1
    e_InvalidBalance := (He.exc_ok (c.fact 45 (f := .exc "InvalidBalance") rfl)).2.2.1
    y_InvalidBalance := (He.exc_ok (c.fact 45 (f := .exc "InvalidBalance") rfl)).2.2.2
    x_InvalidTerms := (He.exc_ok (c.fact 46 (f := .exc "InvalidTerms") rfl)).1
    k_InvalidTerms := (He.exc_ok (c.fact 46 (f := .exc "InvalidTerms") rfl)).2.1
    e_InvalidTerms := (He.exc_ok (c.fact 46 (f := .exc "InvalidTerms") rfl)).2.2.1
    y_InvalidTerms := (He.exc_ok (c.fact 46 (f := .exc "InvalidTerms") rfl)).2.2.2
    x_NothingToUndo := (He.exc_ok (c.fact 47 (f := .exc "NothingToUndo") rfl)).1
    k_NothingToUndo := (He.exc_ok (c.fact 47 (f := .exc "NothingToUndo") rfl)).2.1
    e_NothingToUndo := (He.exc_ok (c.fact 47 (f := .exc "NothingToUndo") rfl)).2.2.1
    y_NothingToUndo := (He.exc_ok (c.fact 47 (f := .exc "NothingToUndo") rfl)).2.2.2
    x_TooLate := (He.exc_ok (c.fact 48 (f := .exc "TooLate") rfl)).1
    k_TooLate := (He.exc_ok (c.fact 48 (f := .exc "TooLate") rfl)).2.1
    e_TooLate := (He.exc_ok (c.fact 48 (f := .exc "TooLate") rfl)).2.2.1
    y_TooLate := (He.exc_ok (c.fact 48 (f := .exc "TooLate") rfl)).2.2.2
    t_InvalidAmount_FeeError := He.exm_ok (c.fact 49 (f := .exm "InvalidAmount" "FeeError" true) rfl)
    t_TooLate_FeeError := He.exm_ok (c.fact 50 (f := .exm "TooLate" "FeeError" true) rfl)
    t_NothingToUndo_FeeError := He.exm_ok (c.fact 51 (f := .exm "NothingToUndo" "FeeError" true) rfl)
    ec_InvalidAmount := excC_of (ex_at cx 0)
    ec_NothingToUndo := excC_of (ex_at cx 1)
    ec_TooLate := excC_of (ex_at cx 2)
    i_InvalidAmount_InvalidAmount := of_decide_eq_true (ex_at cx 3)
    i_InvalidAmount_TooLate := of_decide_eq_true (ex_at cx 4)
    i_InvalidAmount_NothingToUndo := of_decide_eq_true (ex_at cx 5)
    i_TooLate_InvalidAmount := of_decide_eq_true (ex_at cx 6)
    i_TooLate_TooLate := of_decide_eq_true (ex_at cx 7)
    i_TooLate_NothingToUndo := of_decide_eq_true (ex_at cx 8)
    i_NothingToUndo_InvalidAmount := of_decide_eq_true (ex_at cx 9)
    i_NothingToUndo_TooLate := of_decide_eq_true (ex_at cx 10)
    i_NothingToUndo_NothingToUndo := of_decide_eq_true (ex_at cx 11)
  }
end FO
open PySem PySem.W PySem.Calls PyProof.Rows
theorem PySem.Challenge.cw_feeorders_k19_whole_an_account_step_by_s_holds : PySem.Challenge.rw_feeorders_k19_whole_an_account_step_by_s.Holds := by
  w_on; o_law
  refine HandSHeadRun.head_any (r := OpenLaw.row PySem.Challenge.rw_feeorders_k19_whole_an_account_step_by_s) (q := view (OpenLaw.row PySem.Challenge.rw_feeorders_k19_whole_an_account_step_by_s).prog [27]) (H := FO.hkL) (ob := FO.obL) (M := 40000) (loose := FO.looseL) (d := HandSHeadRun.topDef (OpenLaw.row PySem.Challenge.rw_feeorders_k19_whole_an_account_step_by_s).prog 27) (kwd := []) FO.obL_eq
    (by kernel_rfl) (fun s => by kernel_rfl) FO.runL (by kernel_rfl) (by kernel_rfl) (by kernel_rfl) (by rfl) (by first | assumption | decide +kernel) (by decide +kernel) ⟨rfl, rfl, rfl, rfl, rfl, by decide +kernel⟩ ?hw ?hc
  case hw => w_witness2
  case hc =>
    refine L2.walk_ofE (l := PySem.Challenge.rw_feeorders_k19_whole_an_account_step_by_s) (n := 63) (k := 6) (x := "script") (CX := L2.CX0) rfl (by decide) (by kernel_rfl) ⟨rfl, by decide, by decide⟩ ?F (fun _ _ _ _ z => z)
    intro w mg fa h Y G hmg0
    obtain ⟨K, KX, c⟩ := Y
    have hmg : mg ("law" : PySem.Str) = some (.ref fa) := by
      have e : (HandSHeadRun.topDef (OpenLaw.row PySem.Challenge.rw_feeorders_k19_whole_an_account_step_by_s).prog 27).name = ("law" : PySem.Str) := by kernel_rfl
      rw [← e]
      exact hmg0
    obtain ⟨a, fd, hb, hF⟩ := FO.factsL (P := (PySem.Challenge.rw_feeorders_k19_whole_an_account_step_by_s).prog) (w := w) KX G hmg c.t.d c.more
    exact ⟨K, fd, DL.spW K [] (FO.W_law a), KX, hb, fun H a' ns hl _ hS => DL.law_sp (fun ns hn Q q => ⟨ns, rfl, rfl, hn, q⟩) hl hS, hF⟩
