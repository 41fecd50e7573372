import PyProof.Rows.All
import HandS.ForMost
import HandS.Exc
import HandS.ExcCtx
import HandS.HotCalls
import HandS.Lambda
import HandS.EndTab
import HandS.TryOnly
import HandS.ExcOwn
import HandS.WordsExc
import HandS.IsInst
import HandS.Deep
import HandS.TupAny
import HandS.TupMul
import HandS.TupLe
import HandS.Zip
import HandS.Style
import HandS.Wide
import HandS.HeadHook1
import HandS.HeadHook2
import KE.KDictKeyed
import HandS.SortRule
import KE.GoesEnum
import HandS.SetFor
import HandS.Ends
import HandS.HeadEnd
import HandS.Conv
import PyProof.DictDisplay
import HandS.Hot
import PyProof.Rows.SumAny
import HandS.ExcIs
import HandS.HeadWalk
import KE.GoesMore
import KE.KDictZip
import KE.KDictDisplayH
import KE.KDictPairs
import HandS.DictComp
import KE.SortData
import KE.KDictCopyH
import KE.KDictSum
import KE.KTupSum
import KE.DataMinMax
import PyProof.Rows.CallKwBuiltin
import KE.GoesRaise
import HandS.Text
import HandS.FStr
import KE.DataMinKey
import KE.DataFind
import Wide.All
import OpenK.AllK
import Wide.FinOn
import KE.KStateDown
import HandS.Base
import HandS.Call
import HandS.More
import HandS.Words
import HandS.Defaults
import HandS.Head0
import HandS.Head1
import HandS.Head2
import PySem.Challenge.RW_hearsong_k08_whole_soonest
set_option Elab.async false
set_option linter.all false
set_option maxRecDepth 100000
set_option maxHeartbeats 1000000
namespace DL
open PySem PySem.Spec PyProof.Rows L2
abbrev St := L2.St
/-- the text's frame and the world -/
structure KW where
  k : PySem.W.Frag
  w : World
instance : Coe KW PySem.W.Frag := ⟨KW.k⟩
abbrev _root_.L2.Cx.kw (X : Cx) : KW := ⟨X.K, X.w⟩
mutual
def nkey : PyData → Option NestedKey
  | .none => some .none
  | .bool b => some (.num (if b = true then 1 else 0))
  | .int i => some (.num i)
  | .str x => some (.text x)
  | .tuple ds => (nkeys ds).map .tup
  | .list _ => none
  | .dict _ => none
def nkeys : List PyData → Option (List NestedKey)
  | [] => some []
  | d :: ds => (nkey d).bind fun k => (nkeys ds).map fun ks => k :: ks
end
/-- at a stands an exact dict of the entries xs: key, the key's address, value -/
def XOk (w : World) (a : Addr) (xs : List (NestedKey × Addr × L2.V)) (ep : Nat) (h : Heap) : Prop := xs.length ≤ sizeLine ∧ (a == sysModules) = false ∧ (xs.map (·.1)).Nodup ∧ ∃ (us : List (NestedKey × Addr × Value)) (o : Obj) (es : Array DictEntry),
  Paired (fun (x : NestedKey × Addr × L2.V) (u : NestedKey × Addr × Value) => x.1 = u.1 ∧ x.2.1 = u.2.1 ∧ RelV x.2.2 u.2.2) xs us ∧ h.get? a = some o ∧ o.ExactDict ∧ o.data = .dict es ep ∧ es.toList = us.map fun u => ⟨u.1.hash w, .ref u.2.1, u.2.2⟩
def dX (w : World) (a : Addr) (xs : List (NestedKey × Addr × L2.V)) (ep : Nat) : HO := .ext (XOk w a xs ep)
def keyD : Key → PyData
  | .inl i => .int i
  | .inr x => .str x
mutual
inductive Rep (K : KW) (H : Hp) : V → PyData → Prop
  | non : Rep K H .non .none
  | bl (b : Bool) : Rep K H (.bl b) (.bool b)
  | int (i : Int) : Rep K H (.int i) (.int i)
  | str (x : Str) : Rep K H (.str x) (.str x)
  | lst {a : Addr} {xs : List V} {ds : List PyData} : H a = some (.lst xs) → RepL K H xs ds → Rep K H (.ref a) (.list ds)
  | tup {a : Addr} {xs : List V} {ds : List PyData} : H a = some (.tup xs) → RepL K H xs ds → Rep K H (.ref a) (.tuple ds)
  | dk {a : Addr} {kvs : List (Key × V)} {ps : List (PyData × PyData)} : H a = some (.dK kvs) → RepK K H kvs ps → ps ≠ [] → Rep K H (.ref a) (.dict ps)
  | dt {a : Addr} {xs : List (NestedKey × Addr × V)} {ep : Nat} {ps : List (PyData × PyData)} : H a = some (dX K.w a xs ep) → RepT K H xs ps → Rep K H (.ref a) (.dict ps)
inductive RepL (K : KW) (H : Hp) : List V → List PyData → Prop
  | nil : RepL K H [] []
  | cons {v : V} {vs : List V} {d : PyData} {ds : List PyData} : Rep K H v d → RepL K H vs ds → RepL K H (v :: vs) (d :: ds)
inductive RepK (K : KW) (H : Hp) : List (Key × V) → List (PyData × PyData) → Prop
  | nil : RepK K H [] []
  | cons {k : Key} {v : V} {kvs : List (Key × V)} {d : PyData} {ps : List (PyData × PyData)} : Rep K H v d → RepK K H kvs ps → RepK K H ((k, v) :: kvs) ((keyD k, d) :: ps)
inductive RepT (K : KW) (H : Hp) : List (NestedKey × Addr × V) → List (PyData × PyData) → Prop
  | nil : RepT K H [] []
  | cons {k : NestedKey} {b : Addr} {v : V} {xs : List (NestedKey × Addr × V)} {dk d : PyData} {ps : List (PyData × PyData)} : Rep K H (.ref b) dk → nkey dk = some k → k.depth ≤ 8 → Rep K H v d → RepT K H xs ps → RepT K H ((k, b, v) :: xs) ((dk, d) :: ps)
end
theorem sqt {K : PySem.W.Frag} {V H : Hp} {a : Addr} {xs : List L2.V} (e : Same V H) (h : V a = some (.tup xs)) : SqT K H a xs := .inl (.inl (e _ _ h))
mutual
theorem Rep.mono {K : KW} {H H' : Hp} (e : Same H H') : ∀ {v : V} {d : PyData}, Rep K H v d → Rep K H' v d
  | _, _, .non => .non
  | _, _, .bl b => .bl b
  | _, _, .int i => .int i
  | _, _, .str x => .str x
  | _, _, .lst h r => .lst (e _ _ h) (RepL.mono e r)
  | _, _, .tup h r => .tup (e _ _ h) (RepL.mono e r)
  | _, _, .dk h r n => .dk (e _ _ h) (RepK.mono e r) n
  | _, _, .dt h r => .dt (e _ _ h) (RepT.mono e r)
theorem RepL.mono {K : KW} {H H' : Hp} (e : Same H H') : ∀ {vs : List V} {ds : List PyData}, RepL K H vs ds → RepL K H' vs ds
  | _, _, .nil => .nil
  | _, _, .cons r t => .cons (Rep.mono e r) (RepL.mono e t)
theorem RepK.mono {K : KW} {H H' : Hp} (e : Same H H') : ∀ {vs : List (Key × V)} {ds : List (PyData × PyData)}, RepK K H vs ds → RepK K H' vs ds
  | _, _, .nil => .nil
  | _, _, .cons r t => .cons (Rep.mono e r) (RepK.mono e t)
theorem RepT.mono {K : KW} {H H' : Hp} (e : Same H H') : ∀ {vs : List (NestedKey × Addr × V)} {ds : List (PyData × PyData)}, RepT K H vs ds → RepT K H' vs ds
  | _, _, .nil => .nil
  | _, _, .cons q n z r t => .cons (Rep.mono e q) n z (Rep.mono e r) (RepT.mono e t)
end
theorem RepL.length {K : KW} {H : Hp} : ∀ {vs : List V} {ds : List PyData}, RepL K H vs ds → vs.length = ds.length
  | _, _, .nil => rfl
  | _, _, .cons _ t => by simp [RepL.length t]
theorem RepL.get {K : KW} {H : Hp} : ∀ {vs : List V} {ds : List PyData} (i : Nat) {d : PyData}, RepL K H vs ds → ds[i]? = some d → ∃ v, vs[i]? = some v ∧ Rep K H v d
  | _, _, _, _, .nil, h => by simp at h
  | _, _, 0, _, .cons r t, h => by simp at h; subst h; exact ⟨_, rfl, r⟩
  | _, _, i + 1, _, .cons r t, h => by
    obtain ⟨v, h1, h2⟩ := RepL.get i t (by simpa using h)
    exact ⟨v, by simpa using h1, h2⟩
theorem RepL.get' {K : KW} {H : Hp} : ∀ {vs : List V} {ds : List PyData} (i : Nat) {v : V}, RepL K H vs ds → vs[i]? = some v → ∃ d, ds[i]? = some d ∧ Rep K H v d
  | _, _, _, _, .nil, h => by simp at h
  | _, _, 0, _, .cons r t, h => by simp at h; subst h; exact ⟨_, rfl, r⟩
  | _, _, i + 1, _, .cons r t, h => by
    obtain ⟨v, h1, h2⟩ := RepL.get' i t (by simpa using h)
    exact ⟨v, by simpa using h1, h2⟩
theorem RepL.append {K : KW} {H : Hp} : ∀ {vs us : List V} {ds es : List PyData}, RepL K H vs ds → RepL K H us es → RepL K H (vs ++ us) (ds ++ es)
  | _, _, _, _, .nil, h => h
  | _, _, _, _, .cons r t, h => .cons r (RepL.append t h)
theorem RepL.drop {K : KW} {H : Hp} : ∀ (n : Nat) {vs : List V} {ds : List PyData}, RepL K H vs ds → RepL K H (vs.drop n) (ds.drop n)
  | 0, _, _, h => h
  | _ + 1, _, _, .nil => .nil
  | n + 1, _, _, .cons _ t => RepL.drop n t
theorem RepL.take {K : KW} {H : Hp} : ∀ (n : Nat) {vs : List V} {ds : List PyData}, RepL K H vs ds → RepL K H (vs.take n) (ds.take n)
  | 0, _, _, _ => .nil
  | _ + 1, _, _, .nil => .nil
  | n + 1, _, _, .cons r t => .cons r (RepL.take n t)
theorem RepL.set {K : KW} {H : Hp} {v : V} {d : PyData} (r : Rep K H v d) : ∀ (i : Nat) {vs : List V} {ds : List PyData}, RepL K H vs ds → RepL K H (vs.set i v) (ds.set i d)
  | _, _, _, .nil => .nil
  | 0, _, _, .cons _ t => .cons r t
  | i + 1, _, _, .cons q t => .cons q (RepL.set r i t)
theorem RepL.rep {K : KW} {H : Hp} {vs : List V} {ds : List PyData} (h : RepL K H vs ds) : ∀ n : Nat, RepL K H (List.replicate n vs).flatten (List.replicate n ds).flatten
  | 0 => .nil
  | n + 1 => by
    rw [List.replicate_succ, List.replicate_succ]
    exact h.append (h.rep n)
mutual
def imm : PyData → Bool
  | .none => true
  | .bool _ => true
  | .int _ => true
  | .str _ => true
  | .tuple ds => immL ds
  | .list _ => false
  | .dict _ => false
def immL : List PyData → Bool
  | [] => true
  | d :: ds => imm d && immL ds
end
/-- every tuple of H stands in H' -/
def SameT (H H' : Hp) : Prop := (∀ b xs, H b = some (.tup xs) → H' b = some (.tup xs)) ∧ ∀ b o xs, H b = some (.frz o (.tup xs)) → H' b = some (.frz o (.tup xs))
mutual
theorem Rep.imm {K : KW} {H H' : Hp} (e : SameT H H') : ∀ {v : V} {d : PyData}, Rep K H v d → imm d = true → Rep K H' v d
  | _, _, .non, _ => .non
  | _, _, .bl b, _ => .bl b
  | _, _, .int i, _ => .int i
  | _, _, .str x, _ => .str x
  | _, _, .lst h r, q => by simp [DL.imm] at q
  | _, _, .tup h r, q => .tup (e.1 _ _ h) (RepL.imm e r (by simpa [DL.imm] using q))
  | _, _, .dk h r _, q => by simp [DL.imm] at q
  | _, _, .dt h r, q => by simp [DL.imm] at q
theorem RepL.imm {K : KW} {H H' : Hp} (e : SameT H H') : ∀ {vs : List V} {ds : List PyData}, RepL K H vs ds → immL ds = true → RepL K H' vs ds
  | _, _, .nil, _ => .nil
  | _, _, .cons r t, q => by
    have q' := Bool.and_eq_true_iff.mp q
    exact .cons (Rep.imm e r q'.1) (RepL.imm e t q'.2)
end
mutual
theorem Rep.dp {K : KW} {H : Hp} : ∀ {v : V} {d : PyData}, Rep K H v d → d.canLay0 = true → Dp K H v d
  | _, _, .non, _ => .non
  | _, _, .bl b, _ => .bl b
  | _, _, .int i, _ => .int i
  | _, _, .str x, _ => .str x
  | _, _, .lst h r, q => .lst (.inl (.inl h)) (RepL.dp r (by simpa [PyData.canLay0] using q))
  | _, _, .tup h r, q => .tup (.inl (.inl h)) (RepL.dp r (by simpa [PyData.canLay0] using q))
  | _, _, .dk h r _, q => by simp [PyData.canLay0] at q
  | _, _, .dt h r, q => by simp [PyData.canLay0] at q
theorem RepL.dp {K : KW} {H : Hp} : ∀ {vs : List V} {ds : List PyData}, RepL K H vs ds → PyData.canLayAll0 ds = true → DpAll K H vs ds
  | _, _, .nil, _ => .nil
  | _, _, .cons r t, q => by
    have q' := Bool.and_eq_true_iff.mp q
    exact .cons (Rep.dp r q'.1) (RepL.dp t q'.2)
end
/-- defs that make lambdas -/
def lamNames : List Str := ["law", "_law_names_refused", "_law_rows_refused", "silent_from", "all_soonest", "found_leading", "parting"]
/-- a def's code object and its table -/
def tabOf (K : PySem.W.Frag) (x : Str) : Option (Addr × Addr) := match K.lookup (He.ga K x) with
  | some ⟨_, _, .func fd, _⟩ => (match fd.code with
    | .ref c => (match K.lookup c with
      | some ⟨_, _, .fields vs, _⟩ => (match (vs[11]? : Option Value) with
        | some (Value.ref p) => some (c, p)
        | _ => none)
      | _ => none)
    | _ => none)
  | _ => none
def tabs (K : PySem.W.Frag) : List (Addr × Str) := lamNames.filterMap fun x => (tabOf K x).map fun q => (q.2, x ++ ".<locals>.<lambda>")
abbrev nT (o : HO) : Prop := ∀ ps, o ≠ .tbl ps
/-- no table, no code object -/
structure Plain (o : HO) : Prop where
  t : nT o
  c : ∀ c q, o ≠ LamX.CodeO c q
theorem plain_lst {xs : List V} : Plain (.lst xs) := ⟨fun _ z => (by cases z), fun _ _ z => (by unfold LamX.CodeO at z; cases z)⟩
theorem plain_dK {xs : List (Key × V)} : Plain (.dK xs) := ⟨fun _ z => (by cases z), fun _ _ z => (by unfold LamX.CodeO at z; cases z)⟩
theorem plain_dX {w : World} {a : Addr} {xs : List (NestedKey × Addr × V)} {ep : Nat} : Plain (dX w a xs ep) := by
  refine ⟨fun _ z => (by unfold dX at z; cases z), fun c q z => ?_⟩
  unfold LamX.CodeO dX at z
  have e := HO.ext.inj z
  have e2 := congrFun e { objs := Array.replicate (c + 1) { cls := .none, data := .fields #[.none, .str q 0] } }
  have k : XOk w a xs ep { objs := Array.replicate (c + 1) { cls := .none, data := .fields #[.none, .str q 0] } } := by
    rw [e2]
    refine ⟨{ cls := .none, data := .fields #[.none, .str q 0] }, #[.none, .str q 0], 0, ?_, rfl, rfl⟩
    simp [Heap.get?]
  obtain ⟨_, _, _, us, o, es, _, ho, _, hd, _⟩ := k
  unfold Heap.get? at ho
  simp only [Array.getElem?_replicate] at ho
  split at ho
  · cases ho
  · split at ho
    · cases ho; cases hd
    · cases ho
theorem tabs_upd {T : List (Addr × Str)} {H : Hp} {p : Addr} {o : HO} (h : ∀ x, H p = some x → Plain x) (t : LamX.Tabs T H) : LamX.Tabs T (upd H p o) := fun q hq => by
  obtain ⟨ps, h1, h2, h3⟩ := t q hq
  refine ⟨ps, ?_, h2, fun pos cv hc => ?_⟩
  · rw [upd_ne (fun z => (h _ (by rw [← z]; exact h1)).t _ rfl)]; exact h1
  · obtain ⟨c, e1, e2⟩ := h3 pos cv hc
    refine ⟨c, e1, ?_⟩
    rw [upd_ne (fun z => (h _ (by rw [← z]; exact e2)).c _ _ rfl)]; exact e2
/-- the tables, each with the name of its code objects -/
class TabCtx where
  T : List (Addr × Str)
variable [TabCtx]
abbrev TBS : List (Addr × Str) := TabCtx.T
def TabV (H V : Hp) : Prop := LamX.Tabs TBS H ∧ ∀ p ∈ TBS, V p.1 = none
structure Ext (H V H' V' : Hp) : Prop where
  h : LamX.ExtN H H'
  v : Same V V'
  s : Same V' H'
  f : ∀ b, V b = none → H b ≠ none → V' b = none
  th : ∀ b, H b ≠ none → H' b ≠ none
  t : LamX.Tabs TBS H → LamX.Tabs TBS H'
theorem Same.th {H H' : Hp} (e : Same H H') (b : Addr) (h : H b ≠ none) : H' b ≠ none := by
  cases q : H b with
  | none => exact absurd q h
  | some o => rw [e b o q]; exact fun z => nomatch z
theorem Ext.of {H V H' V' : Hp} (h : Same H H') (v : Same V V') (s : Same V' H') (f : ∀ b, V b = none → H b ≠ none → V' b = none) : Ext H V H' V' :=
  ⟨LamX.ExtN.of h, v, s, f, Same.th h, fun t => t.ext h⟩
theorem Ext.refl {H V : Hp} (s : Same V H) : Ext H V H V := .of (Same.refl _) (Same.refl _) s fun _ h _ => h
theorem Ext.trans {H V H1 V1 H2 V2 : Hp} (a : Ext H V H1 V1) (b : Ext H1 V1 H2 V2) : Ext H V H2 V2 :=
  ⟨a.h.trans b.h, a.v.trans b.v, b.s, (fun c h1 h2 => b.f c (a.f c h1 h2) (a.th c h2)), (fun c h => b.th c (a.th c h)), fun t => b.t (a.t t)⟩
theorem Ext.free {H V H' V' : Hp} (x : Ext H V H' V') {b : Addr} (h : H' b = none) : H b = none := by
  cases e : H b with
  | none => rfl
  | some o => exact absurd h (x.th b (by rw [e]; exact fun z => nomatch z))
theorem same_new {H : Hp} {p : Addr} {o : HO} (h : H p = none) : Same H (upd H p o) := fun b x e => by
  rw [upd_ne (ne_of_none e h)]
  exact e
theorem Ext.new {H V : Hp} {p : Addr} {o : HO} (s : Same V H) (h : H p = none) : Ext H V (upd H p o) (upd V p o) := by
  have hv : V p = none := s.free h
  refine .of (same_new h) (same_new hv) (fun b x e => ?_) (fun b h1 h2 => ?_)
  · by_cases q : b = p
    · subst q; rw [upd_same] at e ⊢; exact e
    · rw [upd_ne q] at e ⊢; exact s b x e
  · rw [upd_ne (fun q => h2 (by rw [q]; exact h))]; exact h1
/-- a new cell that is not seen -/
theorem Ext.hid {H V : Hp} {p : Addr} {o : HO} (s : Same V H) (h : H p = none) : Ext H V (upd H p o) V :=
  .of (same_new h) (Same.refl _) (s.trans (same_new h)) fun _ h1 _ => h1
inductive R (α : Type) where
  | ok (a : α)
  | exc (c : Str)
  | bad
def R.bind {α β : Type} (r : R α) (k : α → R β) : R β := match r with
  | .ok a => k a
  | .exc c => .exc c
  | .bad => .bad
instance : Monad R where
  pure := R.ok
  bind := R.bind
/-- a slot: nothing, data that may be shared, a list or a dict that this slot alone knows -/
inductive Sl where
  | no
  | sh (d : PyData)
  | ow (d : PyData)
abbrev Rho := List Sl
def M (α : Type) : Type := Rho → R (α × Rho)
def M.pure {α : Type} (a : α) : M α := fun ρ => .ok (a, ρ)
def M.bind {α β : Type} (f : M α) (k : α → M β) : M β := fun ρ => match f ρ with
  | .ok (a, ρ') => k a ρ'
  | .exc c => .exc c
  | .bad => .bad
instance : Monad M where
  pure := M.pure
  bind := M.bind
/-- an answer, the slots as they are -/
def M.lift {α : Type} (r : R α) : M α := fun ρ => match r with
  | .ok a => .ok (a, ρ)
  | .exc c => .exc c
  | .bad => .bad
def M.opt {α : Type} (r : Option α) : M α := fun ρ => match r with
  | some a => .ok (a, ρ)
  | none => .bad
/-- what is wanted of exceptions; the frame's entry: all of the heap, what is seen; the slot 0's own address, where it is lent -/
structure Fr where
  H0 : Hp
  V0 : Hp
  lent : Option Addr
  W : Value → St → Hp → Prop
  /-- the slot that is lent -/
  ls : Nat
theorem ne_ls {i l : Nat} (h : Nat.beq i l = false) : i ≠ l := fun z => by subst z; rw [Nat.beq_refl] at h; cases h
theorem nm_ls {l : Nat} {vs : List Nat} (h : vs.contains l = false) : l ∉ vs := fun z => by
  have := List.contains_iff_mem.mpr z
  rw [h] at this; cases this
def OwnAt (K : KW) (V H : Hp) (a : Addr) : PyData → Prop
  | .list ds => ∃ vs, H a = some (.lst vs) ∧ RepL K V vs ds
  | .dict ps => (∃ kvs, H a = some (.dK kvs) ∧ RepK K V kvs ps ∧ ps ≠ []) ∨ ∃ xs ep, H a = some (dX K.w a xs ep) ∧ RepT K V xs ps
  | _ => False
theorem OwnAt.there {K : KW} {V H : Hp} {a : Addr} {d : PyData} (h : OwnAt K V H a d) : ∃ o, H a = some o ∧ (∀ xs, o ≠ .tup xs) ∧ (∀ u xs, o ≠ .frz u (.tup xs)) ∧ Plain o := by
  cases d with
  | list ds => obtain ⟨vs, e, _⟩ := h; exact ⟨_, e, (fun _ z => nomatch z), (fun _ _ z => nomatch z), plain_lst⟩
  | dict ps =>
    rcases h with ⟨kvs, e, _⟩ | ⟨kvs, ep, e, _⟩
    · exact ⟨_, e, (fun _ z => nomatch z), (fun _ _ z => nomatch z), plain_dK⟩
    · exact ⟨_, e, (fun _ z => nomatch z), (fun _ _ z => nomatch z), plain_dX⟩
  | _ => exact h.elim
theorem OwnAt.plain {K : KW} {V H : Hp} {a : Addr} {d : PyData} (h : OwnAt K V H a d) : ∀ x, H a = some x → Plain x := fun x e => by
  obtain ⟨o, ho, _, _, p⟩ := h.there
  rw [e] at ho; cases ho; exact p
theorem OwnAt.mono {K : KW} {V H V' H' : Hp} {a : Addr} {d : PyData} (h : OwnAt K V H a d) (v : Same V V') (k : ∀ o, H a = some o → nT o → H' a = some o) : OwnAt K V' H' a d := by
  cases d with
  | list ds => obtain ⟨vs, e, r⟩ := h; exact ⟨vs, k _ e plain_lst.t, r.mono v⟩
  | dict ps =>
    rcases h with ⟨kvs, e, r, n⟩ | ⟨kvs, ep, e, r⟩
    · exact .inl ⟨kvs, k _ e plain_dK.t, r.mono v, n⟩
    · exact .inr ⟨kvs, ep, k _ e plain_dX.t, r.mono v⟩
  | _ => exact h.elim
/-- an own thing that is let go of is data like others -/
theorem OwnAt.rep {K : KW} {V H : Hp} {a : Addr} {d : PyData} (h : OwnAt K V H a d) (v : Same V H) : Rep K H (.ref a) d := by
  cases d with
  | list ds => obtain ⟨vs, e, r⟩ := h; exact .lst e (r.mono v)
  | dict ps =>
    rcases h with ⟨kvs, e, r, n⟩ | ⟨kvs, ep, e, r⟩
    · exact .dk e (r.mono v) n
    · exact .dt e (r.mono v)
  | _ => exact h.elim
structure EnvR (K : KW) (F : Fr) (H V : Hp) (σ : St) (ρ : Rho) : Prop where
  len : σ.length = ρ.length
  ext : Ext F.H0 F.V0 H V
  sh : ∀ (i : Nat) (d : PyData), ρ[i]? = some (.sh d) → ∃ v, σ[i]? = some (some v) ∧ Rep K V v d
  ow : ∀ (i : Nat) (d : PyData), ρ[i]? = some (.ow d) → ∃ a, σ[i]? = some (some (.ref a)) ∧ V a = none ∧ F.H0 a = none ∧ OwnAt K V H a d
  dis : ∀ (i j : Nat) (a : Addr) (d e : PyData), ρ[i]? = some (.ow d) → ρ[j]? = some (.ow e) → σ[i]? = some (some (.ref a)) → σ[j]? = some (some (.ref a)) → i = j
  lent : ∀ a, F.lent = some a → σ[F.ls]? = some (some (.ref a))
  tab : TabV F.H0 F.V0
theorem EnvR.tabs {K : KW} {F : Fr} {H V : Hp} {σ : St} {ρ : Rho} (E : EnvR K F H V σ ρ) : TabV H V := ⟨E.ext.t E.tab.1, fun p hp => E.ext.f p.1 (E.tab.2 p hp) (by
  obtain ⟨ps, h, _⟩ := E.tab.1 p hp
  rw [h]; exact fun z => nomatch z)⟩
def IsOwn (σ : St) (ρ : Rho) (b : Addr) : Prop := ∃ (i : Nat) (d : PyData), ρ[i]? = some (.ow d) ∧ σ[i]? = some (some (.ref b))
/-- what an expression does -/
structure Stp (K : KW) (F : Fr) (σ : St) (ρ ρ' : Rho) (H V H' V' : Hp) : Prop where
  env : EnvR K F H' V' σ ρ'
  v : Same V V'
  keep : ∀ b o, H b = some o → nT o → ¬ IsOwn σ ρ b → H' b = some o
  own : ∀ b, IsOwn σ ρ' b → IsOwn σ ρ b
  shs : ∀ (i : Nat) (d : PyData), ρ'[i]? = some (.sh d) → ρ[i]? = some (.sh d)
  f : ∀ b, V b = none → H b ≠ none → V' b = none
  th : ∀ b, H b ≠ none → H' b ≠ none
section
variable {K : KW} {F : Fr} {σ : St} {ρ ρ1 ρ2 : Rho} {H V H1 V1 H2 V2 : Hp}
theorem Stp.trans (a : Stp K F σ ρ ρ1 H V H1 V1) (b : Stp K F σ ρ1 ρ2 H1 V1 H2 V2) : Stp K F σ ρ ρ2 H V H2 V2 :=
  ⟨b.env, a.v.trans b.v, fun c o e nt n => b.keep c o (a.keep c o e nt n) nt fun q => n (a.own c q), (fun c q => a.own c (b.own c q)), (fun i d q => a.shs i d (b.shs i d q)), (fun c h1 h2 => b.f c (a.f c h1 h2) (a.th c h2)), fun c h => b.th c (a.th c h)⟩
theorem EnvR.grow (E : EnvR K F H V σ ρ) (e : Ext H V H1 V1) : EnvR K F H1 V1 σ ρ := by
  refine ⟨E.len, E.ext.trans e, fun i d h => ?_, fun i d h => ?_, E.dis, E.lent, E.tab⟩
  · obtain ⟨v, h1, h2⟩ := E.sh i d h
    exact ⟨v, h1, h2.mono e.v⟩
  · obtain ⟨a, h1, h2, h3, h4⟩ := E.ow i d h
    obtain ⟨o, ho, _⟩ := h4.there
    exact ⟨a, h1, e.f a h2 (by rw [ho]; exact fun q => nomatch q), h3, h4.mono e.v fun o q n => e.h _ _ q n⟩
theorem EnvR.step (E : EnvR K F H V σ ρ) (e : Ext H V H1 V1) : Stp K F σ ρ ρ H V H1 V1 := ⟨E.grow e, e.v, (fun b o q n _ => e.h b o q n), (fun _ q => q), (fun _ _ q => q), e.f, e.th⟩
theorem EnvR.refl (E : EnvR K F H V σ ρ) : Stp K F σ ρ ρ H V H V := ⟨E, Same.refl _, (fun _ _ q _ _ => q), (fun _ q => q), (fun _ _ q => q), (fun _ h _ => h), fun _ h => h⟩
theorem EnvR.sub (E : EnvR K F H V σ ρ) : Same V H := E.ext.s
/-- what is wanted behind an expression -/
def Goal {α β : Type} (K : KW) (F : Fr) (σ : St) (ρ : Rho) (H V : Hp) (rep : Hp → β → α → Prop) (r : R (α × Rho)) (Q : β → Hp → Prop) : Prop := match r with
  | .ok (a, ρ') => ∀ b H' V', Stp K F σ ρ ρ' H V H' V' → rep V' b a → Q b H'
  | .exc c => ∀ H' V', Ext F.H0 F.V0 H' V' → F.W (.ref (He.ga K c)) σ H'
  | .bad => False
theorem Goal.after {α β : Type} {rep : Hp → β → α → Prop} {r : R (α × Rho)} {Q : β → Hp → Prop} (st : Stp K F σ ρ ρ1 H V H1 V1) (g : Goal K F σ ρ H V rep r Q) : Goal K F σ ρ1 H1 V1 rep r Q := by
  cases r with
  | ok p => exact fun b H' V' s => g b H' V' (st.trans s)
  | exc c => exact g
  | bad => exact g
theorem Goal.bind {α β α' β' : Type} {rep1 : Hp → β → α → Prop} {rep2 : Hp → β' → α' → Prop} {f : M α} {k : α → M α'} {Q : β' → Hp → Prop} {Q1 : β → Hp → Prop}
    (g : Goal K F σ ρ H V rep2 (M.bind f k ρ) Q)
    (h : ∀ b a H' V' ρ', Stp K F σ ρ ρ' H V H' V' → rep1 V' b a → Goal K F σ ρ' H' V' rep2 (k a ρ') Q → Q1 b H') : Goal K F σ ρ H V rep1 (f ρ) Q1 := by
  unfold M.bind at g
  cases e : f ρ with
  | ok p =>
    obtain ⟨a, ρ'⟩ := p
    rw [e] at g
    exact fun b H' V' st r => h b a H' V' ρ' st r (Goal.after st g)
  | exc c => rw [e] at g; exact g
  | bad => rw [e] at g; exact g
end
section
variable (K : KW) (F : Fr)
def tM (f : M PyData) : TE := fun σ H Q => ∃ V ρ, EnvR K F H V σ ρ ∧ Goal K F σ ρ H V (Rep K) (f ρ) Q
def tMA (f : M (List PyData)) : TA := fun σ H Q => ∃ V ρ, EnvR K F H V σ ρ ∧ Goal K F σ ρ H V (RepL K) (f ρ) Q
def tMT (f : M Bool) : TT := fun σ H Q => ∃ V ρ, EnvR K F H V σ ρ ∧ Goal K F σ ρ H V (fun _ b a => b = a) (f ρ) Q
end
def PM (X : Cx) (F : Fr) (e : Expr) (f : M PyData) : Prop := PE X e (tM X.kw F f)
def PMA (X : Cx) (F : Fr) (es : List Expr) (f : M (List PyData)) : Prop := PA X es (tMA X.kw F f)
def PMT (X : Cx) (F : Fr) (e : Expr) (f : M Bool) : Prop := PT X e (tMT X.kw F f)
def PMW (X : Cx) (F : Fr) (e : Expr) (f : M Bool) : Prop := PW X e (tMT X.kw F f)
theorem PE.imp {X : Cx} {e : Expr} {t u : TE} (h : PE X e t) (i : ∀ σ H Q, u σ H Q → t σ H Q) : PE X e u := ⟨fun pins s σ H Q I q => h.run pins s σ H Q I (i σ H Q q)⟩
theorem PT.imp {X : Cx} {e : Expr} {t u : TT} (h : PT X e t) (i : ∀ σ H Q, u σ H Q → t σ H Q) : PT X e u := ⟨fun pins s σ H Q I q => h.run pins s σ H Q I (i σ H Q q)⟩
theorem PW.imp {X : Cx} {e : Expr} {t u : TT} (h : PW X e t) (i : ∀ σ H Q, u σ H Q → t σ H Q) : PW X e u := ⟨fun wh pins s σ H Q I q => h.run wh pins s σ H Q I (i σ H Q q)⟩
theorem PA.imp {X : Cx} {e : List Expr} {t u : TA} (h : PA X e t) (i : ∀ σ H Q, u σ H Q → t σ H Q) : PA X e u := ⟨fun pos pins s σ H Q I q => h.run pos pins s σ H Q I (i σ H Q q)⟩
theorem PS.imp {X : Cx} {e : Stmt} {t u : TS} (h : PS X e t) (i : ∀ D σ H, u D σ H → t D σ H) : PS X e u := ⟨fun pins s σ H D I q => h.run pins s σ H D I (i D σ H q)⟩
theorem PSs.imp {X : Cx} {e : List Stmt} {t u : TS} (h : PSs X e t) (i : ∀ D σ H, u D σ H → t D σ H) : PSs X e u := ⟨fun pins s σ H D I q => h.run pins s σ H D I (i D σ H q)⟩
end DL
set_option Elab.async false
set_option linter.all false
set_option maxRecDepth 100000
set_option maxHeartbeats 1000000
namespace DL
open PySem PySem.Spec PyProof.Rows L2
variable [TabCtx]
def LIM : Nat := 1000000
theorem lim_le : LIM ≤ sizeLine := by rw [sizeLine_eq]; decide
theorem lim_lt : LIM < sizeLine := by rw [sizeLine_eq]; decide
def vN (i : Nat) : M PyData := fun ρ => match ρ[i]? with
  | some (.sh d) => .ok (d, ρ)
  | _ => .bad
def cD (d : PyData) : M PyData := M.pure d
def op1 (g : PyData → Option PyData) (a : M PyData) : M PyData := M.bind a fun x => M.opt (g x)
def op2 (g : PyData → PyData → Option PyData) (a b : M PyData) : M PyData := M.bind a fun x => M.bind b fun y => M.opt (g x y)
def aN : M (List PyData) := M.pure []
def aC (a : M PyData) (r : M (List PyData)) : M (List PyData) := M.bind a fun x => M.bind r fun xs => M.pure (x :: xs)
def opA (g : List PyData → Option PyData) (a : M (List PyData)) : M PyData := M.bind a fun ds => M.opt (g ds)
def callM (m : List PyData → R PyData) (a : M (List PyData)) : M PyData := M.bind a fun ds => M.lift (m ds)
def gTupD (ds : List PyData) : Option PyData := if ds.length ≤ LIM then some (.tuple ds) else none
def gLstD (ds : List PyData) : Option PyData := if ds.length ≤ LIM then some (.list ds) else none
def asB : PyData → Option Bool
  | .bool b => some b
  | _ => none
def tst (a : M PyData) : M Bool := M.bind a fun x => M.opt (asB x)
def andT (a b : M Bool) : M Bool := M.bind a fun x => if x = true then b else M.pure false
def orT (a b : M Bool) : M Bool := M.bind a fun x => if x = true then M.pure true else b
def notT (a : M Bool) : M Bool := M.bind a fun x => M.pure (!x)
def andV (a b : M PyData) : M PyData := M.bind a fun x => M.bind (M.opt (asB x)) fun c => if c = true then b else M.pure (.bool false)
def orV (a b : M PyData) : M PyData := M.bind a fun x => M.bind (M.opt (asB x)) fun c => if c = true then M.pure (.bool true) else b
def notV (a : M PyData) : M PyData := op1 (fun x => (asB x).map fun b => .bool (!b)) a
def ifV (t : M Bool) (a b : M PyData) : M PyData := M.bind t fun c => if c = true then a else b
def chain (g g' : PyData → PyData → Option PyData) (a b c : M PyData) : M PyData := M.bind a fun x => M.bind b fun y => M.bind (M.opt ((g x y).bind asB)) fun k => if k = true then M.bind c fun z => M.opt (g' y z) else M.pure (.bool false)
def OpD (K : KW) (r : R2) (g : PyData → PyData → Option PyData) : Prop := ∀ (x y : V) (dx dy z : PyData) (H V : Hp) (Q : VK), Same V H → Rep K V x dx → Rep K V y dy → g dx dy = some z →
  (∀ v H' V', Ext H V H' V' → Rep K V' v z → Q v H') → r x y H Q
def UnD (K : KW) (r : V → Hp → VK → Prop) (g : PyData → Option PyData) : Prop := ∀ (x : V) (dx z : PyData) (H V : Hp) (Q : VK), Same V H → Rep K V x dx → g dx = some z →
  (∀ v H' V', Ext H V H' V' → Rep K V' v z → Q v H') → r x H Q
def CallD (K : KW) (r : List V → Hp → VK → Prop) (g : List PyData → Option PyData) : Prop := ∀ (xs : List V) (ds : List PyData) (z : PyData) (H V : Hp) (Q : VK), Same V H → RepL K V xs ds → g ds = some z →
  (∀ v H' V', Ext H V H' V' → Rep K V' v z → Q v H') → r xs H Q
section
variable {K : KW} {F : Fr} {σ : St} {ρ : Rho} {H V : Hp} {Q : VK}
theorem Goal.opt {α β : Type} {rep : Hp → β → α → Prop} {Q : β → Hp → Prop} {o : Option α} (E : EnvR K F H V σ ρ) (g : Goal K F σ ρ H V rep (M.opt o ρ) Q) : ∃ z, o = some z ∧ ∀ v H' V', Ext H V H' V' → rep V' v z → Q v H' := by
  cases o with
  | none => exact False.elim g
  | some z => exact ⟨z, rfl, fun v H' V' e r => g v H' V' (E.step e) r⟩
theorem Goal.pure {α β : Type} {rep : Hp → β → α → Prop} {Q : β → Hp → Prop} {a : α} (E : EnvR K F H V σ ρ) (g : Goal K F σ ρ H V rep (M.pure a ρ) Q) : ∀ v H' V', Ext H V H' V' → rep V' v a → Q v H' :=
  fun v H' V' e r => g v H' V' (E.step e) r
theorem Goal.pure0 {α β : Type} {rep : Hp → β → α → Prop} {Q : β → Hp → Prop} {a : α} {v : β} (E : EnvR K F H V σ ρ) (g : Goal K F σ ρ H V rep (M.pure a ρ) Q) (r : rep V v a) : Q v H :=
  Goal.pure E g v H V (Ext.refl E.sub) r
end
section
variable {X : Cx} {F : Fr} {e a b c : Expr} {es : List Expr} {pos : Pos} {fa fb fc : M PyData} {fs : M (List PyData)} {ft fu : M Bool}
theorem pm_var (i : Nat) {x : Str} (hN : X.N[i]? = some x := by rfl) (hv : Vis X.env.scope x := by first | exact Or.inl rfl | exact Or.inr (Or.inl rfl) | exact Or.inr (Or.inr rfl)) (hd : (x == ("__debug__" : Str)) = false := by decide)
    (hcd : (x == ("__classdict__" : Str)) = false := by decide) : PM X F (.Name x pos) (vN i) := by
  refine PE.imp (pe_var hN hv hd hcd) fun σ H Q ⟨V, ρ, E, g⟩ => ?_
  unfold vN at g
  cases e : ρ[i]? with
  | none => rw [e] at g; exact False.elim g
  | some s =>
    rw [e] at g
    cases s with
    | sh d =>
      obtain ⟨v, h1, h2⟩ := E.sh i d e
      exact ⟨v, h1, g v H V E.refl h2⟩
    | no => exact False.elim g
    | ow d => exact False.elim g
theorem pm_const {d : PyData} {v : V} (h : PE X e (tC v)) (r : ∀ V, Rep X.kw V v d) : PM X F e (cD d) := PE.imp h fun σ H Q ⟨V, ρ, E, g⟩ => Goal.pure0 E g (r V)
theorem pm_int {i j} : PM X F (.Constant (.int i) j pos) (cD (.int i)) := pm_const pe_int fun _ => .int i
theorem pm_bl {i j} : PM X F (.Constant (.bool i) j pos) (cD (.bool i)) := pm_const pe_bl fun _ => .bl i
theorem pm_non {j} : PM X F (.Constant .none j pos) (cD .none) := pm_const pe_non fun _ => .non
theorem pm_str {i j} : PM X F (.Constant (.str i) j pos) (cD (.str i)) := pm_const pe_str fun _ => .str i
theorem pm_gint {x : Str} {i : Int} (hm : ∃ t, X.mg x = some (.int i t)) (hg : Gl X x := by rfl) (hd : (x == ("__debug__" : Str)) = false := by decide) : PM X F (.Name x pos) (cD (.int i)) := by
  obtain ⟨t, hm⟩ := hm
  exact pm_const (v := .int i) (pe_glob hg hm ⟨t, rfl⟩ hd) fun _ => .int i
theorem pm_gstr {x z : Str} (hm : ∃ t, X.mg x = some (.str z t)) (hg : Gl X x := by rfl) (hd : (x == ("__debug__" : Str)) = false := by decide) : PM X F (.Name x pos) (cD (.str z)) := by
  obtain ⟨t, hm⟩ := hm
  exact pm_const (v := .str z) (pe_glob hg hm ⟨t, rfl⟩ hd) fun _ => .str z
theorem tOp_of {K : KW} {r : R2} {g : PyData → PyData → Option PyData} (od : OpD K r g) {σ : St} {H : Hp} {Q : VK} (h : tM K F (op2 g fa fb) σ H Q) : tOp r (tM K F fa) (tM K F fb) σ H Q := by
  obtain ⟨V, ρ, E, g0⟩ := h
  refine ⟨V, ρ, E, Goal.bind g0 fun x dx H1 V1 ρ1 st1 r1 g1 => ⟨V1, ρ1, st1.env, Goal.bind g1 fun y dy H2 V2 ρ2 st2 r2 g2 => ?_⟩⟩
  obtain ⟨z, ez, q⟩ := Goal.opt st2.env g2
  exact od x y dx dy z H2 V2 Q st2.env.sub (r1.mono st2.v) r2 ez q
theorem pm_op {op : Operator} {r : R2} {g : PyData → PyData → Option PyData} (ho : OpR X (binaryOp op) r) (od : OpD X.kw r g) (ha : PM X F a fa) (hb : PM X F b fb) : PM X F (.BinOp a op b pos) (op2 g fa fb) :=
  PE.imp (pe_op ho ha hb) fun _ _ _ h => tOp_of od h
theorem pm_cmp {op : CmpOp} {r : R2} {g : PyData → PyData → Option PyData} (ho : OpR X (compareOp op) r) (od : OpD X.kw r g) (ha : PM X F a fa) (hb : PM X F b fb) (hm : behindInMarks op b = false := by first | exact nomark _ | rfl) : PM X F (.Compare a [op] [b] pos) (op2 g fa fb) :=
  PE.imp (pe_cmpR ho ha hb hm) fun _ _ _ h => tOp_of od h
theorem pm_ix {r : R2} {g : PyData → PyData → Option PyData} (hr : IxR X r) (od : OpD X.kw r g) (ha : PM X F a fa) (hb : PM X F b fb) (hs : PlainIx b := by exact fun _ _ => rfl) : PM X F (.Subscript a b pos) (op2 g fa fb) :=
  PE.imp (pe_ix hr ha hb hs) fun _ _ _ h => tOp_of od h
theorem pm_un {op : UnaryOp} {r : V → Hp → VK → Prop} {g : PyData → Option PyData} (ho : UnR X (unaryOp op) r) (od : UnD X.kw r g) (ha : PM X F a fa) : PM X F (.UnaryOp op a pos) (op1 g fa) := by
  refine PE.imp (pe_un ho ha) fun σ H Q ⟨V, ρ, E, g0⟩ => ⟨V, ρ, E, Goal.bind g0 fun x dx H1 V1 ρ1 st1 r1 g1 => ?_⟩
  obtain ⟨z, ez, q⟩ := Goal.opt st1.env g1
  exact od x dx z H1 V1 Q st1.env.sub r1 ez q
theorem pma_nil : PMA X F [] aN := PA.imp pa_nil fun σ H Q ⟨V, ρ, E, g⟩ => Goal.pure0 E g .nil
theorem pma_cons (ha : PM X F e fa) (hr : PMA X F es fs) (hs : starEach (e :: es) X.env = (false, eval e X.env) :: starEach es X.env := by rfl) : PMA X F (e :: es) (aC fa fs) := by
  refine PA.imp (pa_cons ha hr hs) fun σ H Q ⟨V, ρ, E, g0⟩ => ⟨V, ρ, E, Goal.bind g0 fun x dx H1 V1 ρ1 st1 r1 g1 => ⟨V1, ρ1, st1.env, Goal.bind g1 fun y dy H2 V2 ρ2 st2 r2 g2 => ?_⟩⟩
  exact Goal.pure0 st2.env g2 (.cons (r1.mono st2.v) r2)
theorem pm_tup {x1} (h : PMA X F es fs) : PM X F (.Tuple es x1 pos) (opA gTupD fs) := by
  refine PE.imp (pe_tup h) fun σ H Q ⟨V, ρ, E, g0⟩ => ⟨V, ρ, E, Goal.bind g0 fun xs ds H1 V1 ρ1 st1 r1 g1 => ?_⟩
  obtain ⟨z, ez, q⟩ := Goal.opt st1.env g1
  unfold gTupD at ez
  split at ez
  · rename_i hl
    cases ez
    exact ⟨by rw [r1.length]; exact Nat.le_trans hl lim_le, fun p hp => q _ _ _ (Ext.new st1.env.sub hp) (.tup upd_same (r1.mono (same_new (st1.env.sub.free hp))))⟩
  · cases ez
theorem pm_lst (h : PMA X F es fs) : PM X F (.List es pos) (opA gLstD fs) := by
  refine PE.imp (pe_lst h) fun σ H Q ⟨V, ρ, E, g0⟩ => ⟨V, ρ, E, Goal.bind g0 fun xs ds H1 V1 ρ1 st1 r1 g1 => ?_⟩
  obtain ⟨z, ez, q⟩ := Goal.opt st1.env g1
  unfold gLstD at ez
  split at ez
  · rename_i hl
    cases ez
    exact ⟨by rw [r1.length]; exact Nat.le_trans hl lim_le, fun p hp => q _ _ _ (Ext.new st1.env.sub hp) (.lst upd_same (r1.mono (same_new (st1.env.sub.free hp))))⟩
  · cases ez
theorem tCB_of {K : KW} {r : List V → Hp → VK → Prop} {g : List PyData → Option PyData} (od : CallD K r g) {σ : St} {H : Hp} {Q : VK} (h : tM K F (opA g fs) σ H Q) : tCB r (tMA K F fs) σ H Q := by
  obtain ⟨V, ρ, E, g0⟩ := h
  refine ⟨V, ρ, E, Goal.bind g0 fun x dx H1 V1 ρ1 st1 r1 g1 => ?_⟩
  obtain ⟨z, ez, q⟩ := Goal.opt st1.env g1
  exact od x dx z H1 V1 Q st1.env.sub r1 ez q
theorem pm_callB {id : String} {x : Str} {p : Pos} {r : List V → Hp → VK → Prop} {g : List PyData → Option PyData} (hc : CallR X (.builtin id) r) (od : CallD X.kw r g) (hm : X.mg x = none) (ha : PMA X F (e :: es) fs) (hv : bootBuiltins x = some (.builtin id) := by decide +kernel) (hg : Gl X x := by rfl)
    (hn : x ≠ "__name__" := by decide) (hdb : (x == ("__debug__" : Str)) = false := by decide)
    (he : starEach (e :: es) X.env = (false, eval e X.env) :: starEach es X.env := by rfl) (hpl : (backTo pos (starEach es X.env)).any (·.1) = false := by rfl) : PM X F (.Call (.Name x p) (e :: es) [] pos) (opA g fs) :=
  PE.imp (pe_callB hc hg hm hv ha hn hdb he hpl) fun _ _ _ h => tCB_of od h
theorem pm_callTy {T : String} {x : Str} {p : Pos} {r : List V → Hp → VK → Prop} {g : List PyData → Option PyData} (hc : CallR X (.type T) r) (od : CallD X.kw r g) (hm : X.mg x = none) (ha : PMA X F (e :: es) fs) (hv : bootBuiltins x = some (.type T) := by decide +kernel) (hg : Gl X x := by rfl)
    (hn : x ≠ "__name__" := by decide) (hdb : (x == ("__debug__" : Str)) = false := by decide)
    (he : starEach (e :: es) X.env = (false, eval e X.env) :: starEach es X.env := by rfl) (hpl : (backTo pos (starEach es X.env)).any (·.1) = false := by rfl) : PM X F (.Call (.Name x p) (e :: es) [] pos) (opA g fs) :=
  PE.imp (pe_callTy hc hg hm hv ha hn hdb he hpl) fun _ _ _ h => tCB_of od h
theorem pmt_val (h : PM X F e fa) (he : ∀ whole, isTrue e X.env whole = (do let v ← whole; standAt e.pos; holding [v] (truthy v)) := by intro _; rfl) : PMT X F e (tst fa) := by
  refine PT.imp (pt_val h he) fun σ H Q ⟨V, ρ, E, g0⟩ => ⟨V, ρ, E, Goal.bind g0 fun x dx H1 V1 ρ1 st1 r1 g1 => ?_⟩
  obtain ⟨z, ez, q⟩ := Goal.opt st1.env g1
  cases r1 with
  | bl b => cases ez; exact ⟨_, rfl, q _ _ _ (Ext.refl st1.env.sub) rfl⟩
  | _ => cases ez
theorem pmt_cmp {op : CmpOp} {r : R2} {g : PyData → PyData → Option PyData} (ho : OpR X (compareOp op) r) (od : OpD X.kw r g) (ha : PM X F a fa) (hb : PM X F b fb) (hm : behindInMarks op b = false := by first | exact nomark _ | rfl) : PMT X F (.Compare a [op] [b] pos) (tst (op2 g fa fb)) := by
  refine PT.imp (pt_cmpR ho ha hb hm) fun σ H Q h => ?_
  have h2 : tM X.kw F (op2 g fa fb) σ H fun x H' => ∃ k, x = .bl k ∧ Q k H' := by
    obtain ⟨V, ρ, E, g0⟩ := h
    refine ⟨V, ρ, E, Goal.bind g0 fun x dx H1 V1 ρ1 st1 r1 g1 => ?_⟩
    obtain ⟨z, ez, q⟩ := Goal.opt st1.env g1
    cases r1 with
    | bl b => cases ez; exact ⟨_, rfl, q _ _ _ (Ext.refl st1.env.sub) rfl⟩
    | _ => cases ez
  exact tOp_of od h2
theorem pmw_and1 (ha : PMT X F a ft) : PMW X F (.BoolOp .And [a] pos) ft := pw_and1 ha
theorem pmw_or1 (ha : PMT X F a ft) : PMW X F (.BoolOp .Or [a] pos) ft := pw_or1 ha
theorem pmw_and {rest : List Expr} (ha : PMT X F a ft) (hb : PMW X F (.BoolOp .And (b :: rest) pos) fu) : PMW X F (.BoolOp .And (a :: b :: rest) pos) (andT ft fu) := by
  refine PW.imp (pw_and ha hb) fun σ H Q ⟨V, ρ, E, g0⟩ => ⟨V, ρ, E, Goal.bind g0 fun x dx H1 V1 ρ1 st1 r1 g1 => ?_⟩
  subst r1
  cases x with
  | true => exact ⟨V1, ρ1, st1.env, g1⟩
  | false => exact Goal.pure0 st1.env g1 rfl
theorem pmw_or {rest : List Expr} (ha : PMT X F a ft) (hb : PMW X F (.BoolOp .Or (b :: rest) pos) fu) : PMW X F (.BoolOp .Or (a :: b :: rest) pos) (orT ft fu) := by
  refine PW.imp (pw_or ha hb) fun σ H Q ⟨V, ρ, E, g0⟩ => ⟨V, ρ, E, Goal.bind g0 fun x dx H1 V1 ρ1 st1 r1 g1 => ?_⟩
  subst r1
  cases x with
  | true => exact Goal.pure0 st1.env g1 rfl
  | false => exact ⟨V1, ρ1, st1.env, g1⟩
theorem pmt_w (h : PMW X F e ft) : PMT X F e ft := PW.pt h
theorem pmt_not (ha : PMT X F a ft) : PMT X F (.UnaryOp .Not a pos) (notT ft) := by
  refine PT.imp (pt_not ha) fun σ H Q ⟨V, ρ, E, g0⟩ => ⟨V, ρ, E, Goal.bind g0 fun x dx H1 V1 ρ1 st1 r1 g1 => ?_⟩
  subst r1
  exact Goal.pure0 st1.env g1 rfl
theorem pm_one {op} (h : PM X F a fa) : PM X F (.BoolOp op [a] pos) fa := pe_one h
theorem pm_and {rest : List Expr} (ha : PM X F a fa) (hb : PM X F (.BoolOp .And (b :: rest) pos) fb) : PM X F (.BoolOp .And (a :: b :: rest) pos) (andV fa fb) := by
  refine PE.imp (pe_and ha hb) fun σ H Q ⟨V, ρ, E, g0⟩ => ⟨V, ρ, E, Goal.bind g0 fun x dx H1 V1 ρ1 st1 r1 g1 => ?_⟩
  cases r1 with
  | bl b =>
    refine ⟨b, rfl, ?_⟩
    cases b with
    | true => exact ⟨V1, ρ1, st1.env, g1⟩
    | false => exact Goal.pure0 st1.env g1 (.bl false)
  | _ => exact False.elim g1
theorem pm_not (ha : PM X F a fa) : PM X F (.UnaryOp .Not a pos) (notV fa) := by
  refine PE.imp (pe_not ha) fun σ H Q ⟨V, ρ, E, g0⟩ => ⟨V, ρ, E, Goal.bind g0 fun x dx H1 V1 ρ1 st1 r1 g1 => ?_⟩
  obtain ⟨z, ez, q⟩ := Goal.opt st1.env g1
  cases r1 with
  | bl b => cases ez; exact ⟨b, rfl, q _ _ _ (Ext.refl st1.env.sub) (.bl _)⟩
  | _ => cases ez
theorem pm_if (hc : PMT X F c ft) (ha : PM X F a fa) (hb : PM X F b fb) : PM X F (.IfExp c a b pos) (ifV ft fa fb) := by
  refine PE.imp (pe_ifExp hc ha hb) fun σ H Q ⟨V, ρ, E, g0⟩ => ⟨V, ρ, E, Goal.bind g0 fun x dx H1 V1 ρ1 st1 r1 g1 => ?_⟩
  subst r1
  cases x with
  | true => exact ⟨V1, ρ1, st1.env, g1⟩
  | false => exact ⟨V1, ρ1, st1.env, g1⟩
theorem tChain_of {K : KW} {r r' : R2} {g g' : PyData → PyData → Option PyData} (od : OpD K r g) (od' : OpD K r' g') {σ : St} {H : Hp} {Q : VK} (h : tM K F (chain g g' fa fb fc) σ H Q) : tChain r r' (tM K F fa) (tM K F fb) (tM K F fc) σ H Q := by
  obtain ⟨V, ρ, E, g0⟩ := h
  refine ⟨V, ρ, E, Goal.bind g0 fun x dx H1 V1 ρ1 st1 r1 g1 => ⟨V1, ρ1, st1.env, Goal.bind g1 fun y dy H2 V2 ρ2 st2 r2 g2 => ?_⟩⟩
  cases e : g dx dy with
  | none =>
    unfold M.bind M.opt at g2
    rw [e] at g2
    exact False.elim g2
  | some w =>
    unfold M.bind at g2
    rw [e] at g2
    cases w with
    | bool k =>
      refine od x y dx dy (.bool k) H2 V2 _ st2.env.sub (r1.mono st2.v) r2 e fun v H3 V3 ex rv => ?_
      have E3 := st2.env.step ex
      have g3 : Goal K F σ ρ2 H2 V2 (Rep K) ((if k = true then M.bind fc fun z => M.opt (g' dy z) else M.pure (.bool false)) ρ2) Q := g2
      cases rv
      refine ⟨k, rfl, ?_⟩
      have g4 := Goal.after E3 g3
      cases k with
      | false => exact Goal.pure0 E3.env g4 (.bl false)
      | true =>
        rw [if_pos rfl]
        refine ⟨V3, ρ2, E3.env, Goal.bind g4 fun z dz H4 V4 ρ4 st4 r4 g5 => ?_⟩
        obtain ⟨z', ez, q⟩ := Goal.opt st4.env g5
        exact od' y z dy dz z' H4 V4 Q st4.env.sub ((r2.mono ex.v).mono st4.v) r4 ez q
    | _ => exact False.elim g2
theorem pm_chain {op op' : CmpOp} {r r' : R2} {g g' : PyData → PyData → Option PyData} (ho : OpR X (compareOp op) r) (od : OpD X.kw r g) (ho' : OpR X (compareOp op') r') (od' : OpD X.kw r' g') (ha : PM X F a fa) (hb : PM X F b fb) (hc : PM X F c fc)
    (hm : lastMarks [op, op'] [b, c] = false := by with_unfolding_all rfl) : PM X F (.Compare a [op, op'] [b, c] pos) (chain g g' fa fb fc) := PE.imp (pe_chain ho ho' ha hb hc hm) fun _ _ _ h => tChain_of od od' h
theorem pmt_chain {op op' : CmpOp} {r r' : R2} {g g' : PyData → PyData → Option PyData} (ho : OpR X (compareOp op) r) (od : OpD X.kw r g) (ho' : OpR X (compareOp op') r') (od' : OpD X.kw r' g') (ha : PM X F a fa) (hb : PM X F b fb) (hc : PM X F c fc)
    (hm : lastMarks [op, op'] [b, c] = false := by with_unfolding_all rfl) : PMT X F (.Compare a [op, op'] [b, c] pos) (tst (chain g g' fa fb fc)) := by
  refine PT.imp (pt_chain ho ho' ha hb hc hm) fun σ H Q h => ?_
  have h2 : tM X.kw F (chain g g' fa fb fc) σ H fun x H' => ∃ k, x = .bl k ∧ Q k H' := by
    obtain ⟨V, ρ, E, g0⟩ := h
    refine ⟨V, ρ, E, Goal.bind g0 fun x dx H1 V1 ρ1 st1 r1 g1 => ?_⟩
    obtain ⟨z, ez, q⟩ := Goal.opt st1.env g1
    cases r1 with
    | bl b => cases ez; exact ⟨_, rfl, q _ _ _ (Ext.refl st1.env.sub) rfl⟩
    | _ => cases ez
  exact tChain_of od od' h2
end
end DL
set_option Elab.async false
set_option linter.all false
set_option maxRecDepth 100000
set_option maxHeartbeats 1000000
namespace DL
open PySem PySem.Spec PyProof.Rows L2
variable [TabCtx]
theorem ite_some {c : Prop} [Decidable c] {a z : PyData} (h : (if c then some a else none) = some z) : c ∧ a = z := by
  by_cases hc : c
  · rw [if_pos hc] at h; exact ⟨hc, Option.some.inj h⟩
  · rw [if_neg hc] at h; cases h
section
variable {K : KW} {H V : Hp}
theorem new_tup {xs : List L2.V} {ds : List PyData} {p : Addr} (s : Same V H) (hp : H p = none) (r : RepL K V xs ds) : Rep K (upd V p (.tup xs)) (.ref p) (.tuple ds) := .tup upd_same (r.mono (same_new (s.free hp)))
theorem new_lst {xs : List L2.V} {ds : List PyData} {p : Addr} (s : Same V H) (hp : H p = none) (r : RepL K V xs ds) : Rep K (upd V p (.lst xs)) (.ref p) (.list ds) := .lst upd_same (r.mono (same_new (s.free hp)))
end
def gAdd : PyData → PyData → Option PyData
  | .int i, .int j => some (.int (i + j))
  | .tuple a, .tuple b => if a.length + b.length ≤ LIM then some (.tuple (a ++ b)) else none
  | .list a, .list b => if a.length + b.length ≤ LIM then some (.list (a ++ b)) else none
  | .str a, .str b => if a.length + b.length ≤ LIM then some (.str (a ++ b)) else none
  | _, _ => none
def rAddD (K : KW) : R2 := fun x y H Q => (rI0 fun i j => .int (i + j)) x y H Q ∨ (rCatA K x y H Q ∨ (rCat x y H Q ∨ ∃ i j, x = .str i ∧ y = .str j ∧ i.length + j.length ≤ sizeLine ∧ Q (.str (i ++ j)) H))
theorem op_addD {X : Cx} : OpR X (binaryOp .Add) (rAddD X.kw) := op_add.or (op_catA.or (op_cat.or op_add_str))
theorem od_add {K : KW} : OpD K (rAddD K) gAdd := by
  intro x y dx dy z H V Q s rx ry e q
  cases rx with
  | int i =>
    cases ry with
    | int j => cases e; exact .inl ⟨i, j, rfl, rfl, q _ _ _ (Ext.refl s) (.int _)⟩
    | _ => cases e
  | str i =>
    cases ry with
    | str j =>
      obtain ⟨hl, rfl⟩ := ite_some e
      exact .inr (.inr (.inr ⟨i, j, rfl, rfl, Nat.le_trans hl lim_le, q _ _ _ (Ext.refl s) (.str _)⟩))
    | _ => cases e
  | @lst a xs ds ha ra =>
    cases ry with
    | @lst b ys es hb rb =>
      obtain ⟨hl, rfl⟩ := ite_some e
      refine .inr (.inr (.inl ⟨a, b, xs, ys, rfl, rfl, s _ _ ha, s _ _ hb, ?_, fun p hp => q _ _ _ (Ext.new s hp) (new_lst s hp (ra.append rb))⟩))
      rw [ra.length, rb.length]; exact Nat.le_trans hl lim_le
    | _ => cases e
  | @tup a xs ds ha ra =>
    cases ry with
    | @tup b ys es hb rb =>
      obtain ⟨hl, rfl⟩ := ite_some e
      refine .inr (.inl ⟨a, b, xs, ys, rfl, rfl, sqt s ha, sqt s hb, ?_, fun hx => ?_, fun hx hy => ?_, fun hx hy p hp => q _ _ _ (Ext.new s hp) (new_tup s hp (ra.append rb))⟩)
      · rw [ra.length, rb.length]; exact Nat.le_trans hl lim_le
      · subst hx; cases ra; exact q _ _ _ (Ext.refl s) (.tup hb rb)
      · subst hy; cases rb; exact q _ _ _ (Ext.refl s) (by rw [List.append_nil]; exact .tup ha ra)
    | _ => cases e
  | _ => cases e
def gSub : PyData → PyData → Option PyData
  | .int i, .int j => some (.int (i - j))
  | _, _ => none
theorem od_sub {K : KW} : OpD K (rI0 fun i j => .int (i - j)) gSub := by
  intro x y dx dy z H V Q s rx ry e q
  cases rx with
  | int i =>
    cases ry with
    | int j => cases e; exact ⟨i, j, rfl, rfl, q _ _ _ (Ext.refl s) (.int _)⟩
    | _ => cases e
  | _ => cases e
def gMod : PyData → PyData → Option PyData
  | .int i, .int j => if 0 < j then some (.int (i % j)) else none
  | _, _ => none
theorem od_mod {K : KW} : OpD K (rI (fun _ j => 0 < j) fun i j => .int (i % j)) gMod := by
  intro x y dx dy z H V Q s rx ry e q
  cases rx with
  | int i =>
    cases ry with
    | int j =>
      obtain ⟨hj, rfl⟩ := ite_some e
      exact ⟨i, j, rfl, rfl, hj, q _ _ _ (Ext.refl s) (.int _)⟩
    | _ => cases e
  | _ => cases e
def gDiv : PyData → PyData → Option PyData
  | .int i, .int j => if 0 < j ∧ j < 2 ^ 200 then some (.int (i / j)) else none
  | _, _ => none
theorem od_div {K : KW} : OpD K (rI CDivW fun i j => .int (i / j)) gDiv := by
  intro x y dx dy z H V Q s rx ry e q
  cases rx with
  | int i =>
    cases ry with
    | int j =>
      obtain ⟨hj, rfl⟩ := ite_some e
      exact ⟨i, j, rfl, rfl, wide_div (b := 200) hj.1 (by have h1 := hj.1; have h2 := hj.2; omega) (by decide) (by decide), q _ _ _ (Ext.refl s) (.int _)⟩
    | _ => cases e
  | _ => cases e
def gMul : PyData → PyData → Option PyData
  | .int i, .int j => if ((-(2 ^ 64) < i ∧ i < 2 ^ 64) ∨ (-(2 ^ 64) < j ∧ j < 2 ^ 64)) ∨ (i.natAbs < 2 ^ 2000 ∧ j.natAbs < 2 ^ 2000) then some (.int (i * j)) else none
  | .list a, .int k => if -(2 ^ 63) ≤ k ∧ k < 2 ^ 63 ∧ a.length * k.toNat ≤ LIM then some (.list (List.replicate k.toNat a).flatten) else none
  | .tuple a, .int k => if a ≠ [] ∧ 1 ≤ k ∧ k ≤ 1000 ∧ a.length ≤ 1000 then some (.tuple (List.replicate k.toNat a).flatten) else none
  | _, _ => none
theorem tuple_mul1 (l : Addr) (items : Array Value) (n : Nat) (dd : Option Addr) (sl : Array (Option Value)) (u : Tok) :
    Meets (Builtin.«tuple.__mul__» ⟨[.ref l, .int 1 u], []⟩) (fun _ R s => s.heap.get? l = some { cls := .type "tuple", dict := dd, data := .seq items n, slots := sl } ∧
      R (.ok (.ret (Value.ref l))) s) :=
  .of_wp fun prog w A R s h => by
    obtain ⟨hp, g, d, tk, os⟩ := s
    obtain ⟨hl, h⟩ := h
    have f1 := AutoSeq1.idx_int
    wp_walk using wpAny_loadPart' hl
    exact ⟨_, rfl, h⟩
def rRepT1 (K : PySem.W.Frag) : R2 := fun x y H Q => ∃ l xs, x = .ref l ∧ y = .int 1 ∧ SqT K H l xs ∧ Q (.ref l) H
theorem op_repT1 {X : Cx} : OpR X (binaryOp .Mult) (rRepT1 X.K) := by
  intro pins s σ H x y v u Q I rx ry h
  obtain ⟨l, xs, rfl, rfl, hT, q⟩ := h
  cases rx
  obtain ⟨t, rfl⟩ := ry
  obtain ⟨its, r, ⟨⟨cls, dd, data, sl⟩, ho, hc, n, hd⟩, hs⟩ := I.tuple hT
  simp only at hc hd
  subst hc hd
  exact wpAny_binaryOp_repeat_ref (T := "tuple") (U := "int") (by decide) ⟨_, ho, rfl⟩ (fun s' => typeIs_int s' 1 t) noFill_tuple_mul F.fills_int_mul F.slot_int_rmul repeat_tuple F.slot_int_index.lookup
    (call_meets F.slot_int_rmul (typeIs_int s 1 t) F.entry_int_rmul (F.args_int_rmul_2 _ _) (int_rmul_tuple 1 t l its.toArray n dd sl)
      ⟨ho, rfl, ⟨_, ho, rfl⟩, call_meets F.slot_tuple_mul ⟨_, ho, rfl⟩ F.entry_tuple_mul (F.args_tuple_mul_2 _ _) (tuple_mul1 l its.toArray n dd sl t) ⟨ho, .ref l, H, I, rfl, q⟩⟩)
def rMulD (K : KW) : R2 := fun x y H Q => (rI CMul fun i j => .int (i * j)) x y H Q ∨ ((rI CMulW fun i j => .int (i * j)) x y H Q ∨ (rRep x y H Q ∨ (rRepT K x y H Q ∨ rRepT1 K x y H Q)))
theorem op_mulD {X : Cx} : OpR X (binaryOp .Mult) (rMulD X.kw) := op_mul.or (op_mulW.or (op_rep.or (op_repT.or op_repT1)))
theorem od_mul {K : KW} : OpD K (rMulD K) gMul := by
  intro x y dx dy z H V Q s rx ry e q
  cases rx with
  | int i =>
    cases ry with
    | int j =>
      obtain ⟨hj, rfl⟩ := ite_some e
      rcases hj with hj | hj
      · exact .inl ⟨i, j, rfl, rfl, hj, q _ _ _ (Ext.refl s) (.int _)⟩
      · exact .inr (.inl ⟨i, j, rfl, rfl, wide_mul hj.1 hj.2 (by decide) (by decide) (by decide), q _ _ _ (Ext.refl s) (.int _)⟩)
    | _ => cases e
  | @lst a xs ds ha ra =>
    cases ry with
    | int k =>
      obtain ⟨hl, rfl⟩ := ite_some e
      exact .inr (.inr (.inl ⟨a, k, xs, rfl, rfl, s _ _ ha, hl.1, hl.2.1, by rw [ra.length]; exact Nat.le_trans hl.2.2 lim_le, fun p hp => q _ _ _ (Ext.new s hp) (new_lst s hp (ra.rep _))⟩))
    | _ => cases e
  | @tup a xs ds ha ra =>
    cases ry with
    | int k =>
      obtain ⟨hl, rfl⟩ := ite_some e
      by_cases hk : k = 1
      · subst hk
        refine .inr (.inr (.inr (.inr ⟨a, xs, rfl, rfl, sqt s ha, q _ _ _ (Ext.refl s) ?_⟩)))
        have e1 : (List.replicate (1 : Int).toNat ds).flatten = ds := by simp
        rw [e1]
        exact .tup ha ra
      · refine .inr (.inr (.inr (.inl ⟨a, k, xs, rfl, rfl, sqt s ha, fun h => hl.1 ?_, by have := hl.2.1; omega, hl.2.2.1, by rw [ra.length]; exact hl.2.2.2, fun p hp => q _ _ _ (Ext.new s hp) (new_tup s hp (ra.rep _))⟩)))
        subst h; cases ra; rfl
    | _ => cases e
  | _ => cases e
def gPow : PyData → PyData → Option PyData
  | .int i, .int j => if 0 ≤ j ∧ j ≤ 1000 ∧ i.natAbs < 2 ^ 64 then some (.int (i ^ j.toNat)) else none
  | _, _ => none
theorem od_pow {K : KW} : OpD K (rI CPow fun i j => .int (i ^ j.toNat)) gPow := by
  intro x y dx dy z H V Q s rx ry e q
  cases rx with
  | int i =>
    cases ry with
    | int j =>
      obtain ⟨hj, rfl⟩ := ite_some e
      exact ⟨i, j, rfl, rfl, ⟨hj.1, by have := hj.2.1; omega, hj.2.2⟩, q _ _ _ (Ext.refl s) (.int _)⟩
    | _ => cases e
  | _ => cases e
def gNeg : PyData → Option PyData
  | .int i => some (.int (-i))
  | _ => none
theorem od_neg {K : KW} : UnD K (rU fun i => .int (-i)) gNeg := by
  intro x dx z H V Q s rx e q
  cases rx with
  | int i => cases e; exact ⟨i, rfl, q _ _ _ (Ext.refl s) (.int _)⟩
  | _ => cases e
def gCmpI (p : Int → Int → Bool) : PyData → PyData → Option PyData
  | .int i, .int j => some (.bool (p i j))
  | _, _ => none
theorem od_cmpI {K : KW} {p : Int → Int → Bool} : OpD K (rI0 fun i j => .bl (p i j)) (gCmpI p) := by
  intro x y dx dy z H V Q s rx ry e q
  cases rx with
  | int i =>
    cases ry with
    | int j => cases e; exact ⟨i, j, rfl, rfl, q _ _ _ (Ext.refl s) (.bl _)⟩
    | _ => cases e
  | _ => cases e
def gLe := gCmpI fun i j => decide (i ≤ j)
def gGt := gCmpI fun i j => decide (j < i)
def gGe := gCmpI fun i j => decide (j ≤ i)
theorem od_le {K : KW} : OpD K (rI0 fun i j => .bl (decide (i ≤ j))) gLe := od_cmpI
theorem od_gt {K : KW} : OpD K (rI0 fun i j => .bl (decide (j < i))) gGt := od_cmpI
theorem od_ge {K : KW} : OpD K (rI0 fun i j => .bl (decide (j ≤ i))) gGe := od_cmpI
def gEq (x y : PyData) : Option PyData := if (SeqAt.shaped x && SeqAt.shaped y) = true then some (.bool (PyData.eqv x y)) else none
def gNe (x y : PyData) : Option PyData := if (SeqAt.shaped x && SeqAt.shaped y) = true then some (.bool (!PyData.eqv x y)) else none
theorem od_eq {K : KW} : OpD K (rEqD K) gEq := by
  intro x y dx dy z H V Q s rx ry e q
  obtain ⟨h, rfl⟩ := ite_some e
  obtain ⟨h1, h2⟩ := Bool.and_eq_true_iff.mp h
  exact ⟨dx, dy, (rx.mono s).dp (SeqAt.canLay_of_shaped h1), (ry.mono s).dp (SeqAt.canLay_of_shaped h2), h1, h2, q _ _ _ (Ext.refl s) (.bl _)⟩
theorem od_ne {K : KW} : OpD K (rNeD K) gNe := by
  intro x y dx dy z H V Q s rx ry e q
  obtain ⟨h, rfl⟩ := ite_some e
  obtain ⟨h1, h2⟩ := Bool.and_eq_true_iff.mp h
  exact ⟨dx, dy, (rx.mono s).dp (SeqAt.canLay_of_shaped h1), (ry.mono s).dp (SeqAt.canLay_of_shaped h2), h1, h2, q _ _ _ (Ext.refl s) (.bl _)⟩
def isNone : PyData → Bool
  | .none => true
  | _ => false
def gIsNot : PyData → PyData → Option PyData
  | x, .none => some (.bool (!isNone x))
  | .bool a, .bool b => some (.bool (!decide (a = b)))
  | _, _ => none
theorem isNone_rep {K : KW} {V : Hp} {x : L2.V} {d : PyData} (r : Rep K V x d) : decide (x = .non) = isNone d := by
  cases r <;> rfl
def rIsNotD : R2 := fun x y H Q => (y = .non ∧ Q (.bl (!decide (x = .non))) H) ∨ ∃ a b, x = .bl a ∧ y = .bl b ∧ Q (.bl (!decide (a = b))) H
theorem op_isNotD {X : Cx} : OpR X (compareOp .IsNot) rIsNotD := op_notN.or op_isnot_bl
theorem od_isNot {K : KW} : OpD K rIsNotD gIsNot := by
  intro x y dx dy z H V Q s rx ry e q
  cases ry with
  | non =>
    have e2 : z = .bool (!isNone dx) := by cases dx <;> exact (Option.some.inj e).symm
    subst e2
    exact .inl ⟨rfl, by rw [isNone_rep rx]; exact q _ _ _ (Ext.refl s) (.bl _)⟩
  | bl b =>
    cases rx with
    | bl a => cases e; exact .inr ⟨a, b, rfl, rfl, q _ _ _ (Ext.refl s) (.bl _)⟩
    | _ => cases e
  | _ => cases rx <;> cases e
def gIn : PyData → PyData → Option PyData
  | x, .list ds => if (SeqAt.shaped x && SeqAt.shaped (.list ds)) = true then some (.bool (ds.any fun z => PyData.eqv z x)) else none
  | x, .tuple ds => if (SeqAt.shaped x && SeqAt.shaped (.tuple ds)) = true then some (.bool (ds.any fun z => PyData.eqv z x)) else none
  | .str x, .str z => match x.cps.toList with
    | [c] => some (.bool (decide (c ∈ z.cps.toList)))
    | _ => none
  | _, _ => none
def gNotIn : PyData → PyData → Option PyData
  | x, .list ds => if (SeqAt.shaped x && SeqAt.shaped (.list ds)) = true then some (.bool (!ds.any fun z => PyData.eqv z x)) else none
  | x, .tuple ds => if (SeqAt.shaped x && SeqAt.shaped (.tuple ds)) = true then some (.bool (!ds.any fun z => PyData.eqv z x)) else none
  | _, _ => none
/-- in a tuple -/
def rInT (K : KW) : R2 := fun x y H Q => ∃ dx es, Dp K H x dx ∧ Dp K H y (.tuple es) ∧ SeqAt.shaped dx = true ∧ SeqAt.shaped (.tuple es) = true ∧ Q (.bl (es.any fun z => PyData.eqv z dx)) H
def rNotInT (K : KW) : R2 := fun x y H Q => ∃ dx es, Dp K H x dx ∧ Dp K H y (.tuple es) ∧ SeqAt.shaped dx = true ∧ SeqAt.shaped (.tuple es) = true ∧ Q (.bl (!es.any fun z => PyData.eqv z dx)) H
theorem op_inT {X : Cx} (hu : X.A.units + 65 < cLine) : OpR X (compareOp .In) (rInT X.kw) := by
  intro pins s σ H x y v u Q I rx ry ⟨dx, es, h1, h2, s1, s2, q⟩
  obtain ⟨as, r1⟩ := Dp.reads I dx x v h1 rx
  obtain ⟨bs, r2⟩ := Dp.reads I (.tuple es) y u h2 ry
  exact SeqAt.in_tuple_reads r2 r1 (by have := SeqAt.canLay_of_shaped s2; rw [PyData.canLay0] at this; exact this) (SeqAt.canLay_of_shaped s1) (room_in_shaped s1 hu) ⟨.bl _, H, I, rfl, q⟩
theorem op_notInT {X : Cx} (hu : X.A.units + 65 < cLine) : OpR X (compareOp .NotIn) (rNotInT X.kw) := by
  intro pins s σ H x y v u Q I rx ry ⟨dx, es, h1, h2, s1, s2, q⟩
  obtain ⟨as, r1⟩ := Dp.reads I dx x v h1 rx
  obtain ⟨bs, r2⟩ := Dp.reads I (.tuple es) y u h2 ry
  exact SeqAt.notIn_tuple_reads r2 r1 (by have := SeqAt.canLay_of_shaped s2; rw [PyData.canLay0] at this; exact this) (SeqAt.canLay_of_shaped s1) (room_in_shaped s1 hu) ⟨.bl _, H, I, rfl, q⟩
def rSign : R2 := fun x y H Q => ∃ (c : Nat) (z : Str), x = .str ⟨#[c]⟩ ∧ y = .str z ∧ Q (.bl (decide (c ∈ z.cps.toList))) H
def rInAll (K : KW) : R2 := fun x y H Q => rInD K x y H Q ∨ (rInT K x y H Q ∨ rSign x y H Q)
theorem op_inAll {X : Cx} (hu : X.A.units + 65 < cLine) : OpR X (compareOp .In) (rInAll X.kw) := (op_inD hu).or ((op_inT hu).or op_in_sign)
def rNotInAll (K : KW) : R2 := fun x y H Q => rNotInD K x y H Q ∨ rNotInT K x y H Q
theorem op_notInAll {X : Cx} (hu : X.A.units + 65 < cLine) : OpR X (compareOp .NotIn) (rNotInAll X.kw) := (op_notInD hu).or (op_notInT hu)
theorem od_in {K : KW} : OpD K (rInAll K) gIn := by
  intro x y dx dy z H V Q s rx ry e q
  cases ry with
  | @lst a xs ds ha ra =>
    have e2 : (if (SeqAt.shaped dx && SeqAt.shaped (.list ds)) = true then some (PyData.bool (ds.any fun z => PyData.eqv z dx)) else none) = some z := by cases dx <;> exact e
    obtain ⟨h, rfl⟩ := ite_some e2
    obtain ⟨h1, h2⟩ := Bool.and_eq_true_iff.mp h
    exact .inl ⟨dx, ds, (rx.mono s).dp (SeqAt.canLay_of_shaped h1), ((Rep.lst ha ra).mono s).dp (SeqAt.canLay_of_shaped h2), h1, h2, q _ _ _ (Ext.refl s) (.bl _)⟩
  | @tup a xs ds ha ra =>
    have e2 : (if (SeqAt.shaped dx && SeqAt.shaped (.tuple ds)) = true then some (PyData.bool (ds.any fun z => PyData.eqv z dx)) else none) = some z := by cases dx <;> exact e
    obtain ⟨h, rfl⟩ := ite_some e2
    obtain ⟨h1, h2⟩ := Bool.and_eq_true_iff.mp h
    exact .inr (.inl ⟨dx, ds, (rx.mono s).dp (SeqAt.canLay_of_shaped h1), ((Rep.tup ha ra).mono s).dp (SeqAt.canLay_of_shaped h2), h1, h2, q _ _ _ (Ext.refl s) (.bl _)⟩)
  | str w =>
    cases rx with
    | str u =>
      obtain ⟨l⟩ := u
      obtain ⟨l⟩ := l
      match l, e with
      | [c], e =>
        cases e
        exact .inr (.inr ⟨c, w, rfl, rfl, q _ _ _ (Ext.refl s) (.bl _)⟩)
      | [], e => cases e
      | _ :: _ :: _, e => cases e
    | _ => cases e
  | _ => cases rx <;> cases e
theorem od_notIn {K : KW} : OpD K (rNotInAll K) gNotIn := by
  intro x y dx dy z H V Q s rx ry e q
  cases ry with
  | @lst a xs ds ha ra =>
    have e2 : (if (SeqAt.shaped dx && SeqAt.shaped (.list ds)) = true then some (PyData.bool (!ds.any fun z => PyData.eqv z dx)) else none) = some z := by cases dx <;> exact e
    obtain ⟨h, rfl⟩ := ite_some e2
    obtain ⟨h1, h2⟩ := Bool.and_eq_true_iff.mp h
    exact .inl ⟨dx, ds, (rx.mono s).dp (SeqAt.canLay_of_shaped h1), ((Rep.lst ha ra).mono s).dp (SeqAt.canLay_of_shaped h2), h1, h2, q _ _ _ (Ext.refl s) (.bl _)⟩
  | @tup a xs ds ha ra =>
    have e2 : (if (SeqAt.shaped dx && SeqAt.shaped (.tuple ds)) = true then some (PyData.bool (!ds.any fun z => PyData.eqv z dx)) else none) = some z := by cases dx <;> exact e
    obtain ⟨h, rfl⟩ := ite_some e2
    obtain ⟨h1, h2⟩ := Bool.and_eq_true_iff.mp h
    exact .inr ⟨dx, ds, (rx.mono s).dp (SeqAt.canLay_of_shaped h1), ((Rep.tup ha ra).mono s).dp (SeqAt.canLay_of_shaped h2), h1, h2, q _ _ _ (Ext.refl s) (.bl _)⟩
  | _ => cases rx <;> cases e
def atD (ds : List PyData) (i : Int) : Option PyData := if 0 ≤ i then ds[i.toNat]? else if -(ds.length : Int) ≤ i then ds[(i + ds.length).toNat]? else none
def gIx : PyData → PyData → Option PyData
  | .list ds, .int i => atD ds i
  | .tuple ds, .int i => atD ds i
  | _, _ => none
theorem atD_get {K : KW} {V : Hp} {xs : List L2.V} {ds : List PyData} {i : Int} {z : PyData} (r : RepL K V xs ds) (h : atD ds i = some z) : ∃ v, atI xs i = some v ∧ Rep K V v z := by
  unfold atD at h
  unfold atI ixN
  have hl := r.length
  by_cases h0 : 0 ≤ i
  · rw [if_pos h0] at h ⊢
    obtain ⟨hlt, _⟩ := List.getElem?_eq_some_iff.mp h
    obtain ⟨v, h1, h2⟩ := r.get _ h
    rw [if_pos (by omega)]
    exact ⟨v, h1, h2⟩
  · rw [if_neg h0] at h ⊢
    by_cases hn : -(ds.length : Int) ≤ i
    · rw [if_pos hn] at h
      rw [if_pos (by omega)]
      obtain ⟨v, h1, h2⟩ := r.get _ h
      exact ⟨v, by rw [hl]; exact h1, h2⟩
    · rw [if_neg hn] at h; cases h
theorem od_ix {K : KW} : OpD K (rIx K) gIx := by
  intro x y dx dy z H V Q s rx ry e q
  cases rx with
  | @lst a xs ds ha ra =>
    cases ry with
    | int i =>
      obtain ⟨v, h1, h2⟩ := atD_get ra e
      exact .inl ⟨a, xs, i, v, rfl, rfl, .inl (.inl (s _ _ ha)), h1, q _ _ _ (Ext.refl s) h2⟩
    | _ => cases e
  | @tup a xs ds ha ra =>
    cases ry with
    | int i =>
      obtain ⟨v, h1, h2⟩ := atD_get ra e
      exact .inr (.inl ⟨a, xs, i, v, rfl, rfl, sqt s ha, h1, q _ _ _ (Ext.refl s) h2⟩)
    | _ => cases e
  | _ => cases ry <;> cases e
def cutD (ds : List PyData) (lo hi : Option Int) : List PyData := (ds.drop (HT.sIx ds.length 0 lo)).take (HT.sIx ds.length ds.length hi - HT.sIx ds.length 0 lo)
theorem cut_rep {K : KW} {V : Hp} {xs : List L2.V} {ds : List PyData} (r : RepL K V xs ds) (lo hi : Option Int) : RepL K V (cutV xs lo hi) (cutD ds lo hi) := by
  unfold cutV cutD
  rw [r.length]
  exact (r.drop _).take _
def gCut (lo hi : Option Int) : PyData → Option PyData
  | .list ds => some (.list (cutD ds lo hi))
  | .tuple ds => some (.tuple (cutD ds lo hi))
  | _ => none
def asI : PyData → Option Int
  | .int i => some i
  | _ => none
/-- a part of a slice -/
def prt (a : M PyData) : M (Option Int) := M.bind a fun x => M.bind (M.opt (asI x)) fun i => M.pure (some i)
def noPrt : M (Option Int) := M.pure none
def slc (a : M PyData) (lo hi : M (Option Int)) : M PyData := M.bind a fun x => M.bind lo fun l => M.bind hi fun h => M.opt (gCut l h x)
def tMO (K : KW) (F : Fr) (f : M (Option Int)) : TO := fun σ H Q => ∃ V ρ, EnvR K F H V σ ρ ∧ Goal K F σ ρ H V (fun _ b a => b = a) (f ρ) Q
def PMO (X : Cx) (F : Fr) (e : Option Expr) (f : M (Option Int)) : Prop := PO X e (tMO X.kw F f)
theorem PO.imp {X : Cx} {e : Option Expr} {t u : TO} (h : PO X e t) (i : ∀ σ H Q, u σ H Q → t σ H Q) : PO X e u := by
  obtain ⟨r⟩ := h
  exact ⟨fun pins s σ H Q I q => r pins s σ H Q I (i σ H Q q)⟩
section
variable {X : Cx} {F : Fr} {e : Expr} {fa : M PyData} {fl fh : M (Option Int)}
theorem pmo_none : PMO X F none noPrt := PO.imp po_none fun σ H Q ⟨V, ρ, E, g⟩ => Goal.pure0 E g rfl
theorem pmo_some (h : PM X F e fa) : PMO X F (some e) (prt fa) := by
  refine PO.imp (po_some h) fun σ H Q ⟨V, ρ, E, g0⟩ => ⟨V, ρ, E, Goal.bind g0 fun x dx H1 V1 ρ1 st1 r1 g1 => ?_⟩
  cases r1 with
  | int i => exact ⟨i, rfl, Goal.pure0 st1.env g1 rfl⟩
  | _ => exact False.elim g1
theorem pm_slice {lo hi : Option Expr} {p2 pos : Pos} (he : PM X F e fa) (hl : PMO X F lo fl) (hh : PMO X F hi fh) : PM X F (.Subscript e (.Slice lo hi none p2) pos) (slc fa fl fh) := by
  refine PE.imp (pe_slice (sl_list.or sl_tupA) he hl hh) fun σ H Q ⟨V, ρ, E, g0⟩ => ⟨V, ρ, E, Goal.bind g0 fun x dx H1 V1 ρ1 st1 r1 g1 =>
    ⟨V1, ρ1, st1.env, Goal.bind g1 fun l l' H2 V2 ρ2 st2 r2 g2 => ⟨V2, ρ2, st2.env, Goal.bind g2 fun h h' H3 V3 ρ3 st3 r3 g3 => ?_⟩⟩⟩
  subst r2 r3
  obtain ⟨z, ez, q⟩ := Goal.opt st3.env g3
  have rx := (r1.mono st2.v).mono st3.v
  have s := st3.env.sub
  cases rx with
  | @lst a xs ds ha ra =>
    cases ez
    exact .inl ⟨a, xs, rfl, .inl (.inl (s _ _ ha)), fun p hp => q _ _ _ (Ext.new s hp) (new_lst s hp (cut_rep ra l h))⟩
  | @tup a xs ds ha ra =>
    cases ez
    refine .inr ⟨a, xs, rfl, sqt s ha, fun hw => ?_, fun hw p hp => q _ _ _ (Ext.new s hp) (new_tup s hp (cut_rep ra l h))⟩
    refine q _ _ _ (Ext.refl s) ?_
    have e2 : cutD ds l h = ds := by
      unfold cutD
      rw [← ra.length, hw.1, hw.2, List.drop_zero, Nat.sub_zero, ra.length]
      exact List.take_length
    rw [e2]
    exact .tup ha ra
  | _ => cases ez
end
def gLen : List PyData → Option PyData
  | [.list ds] => some (.int ds.length)
  | [.tuple ds] => some (.int ds.length)
  | [.str x] => if x.length ≤ LIM then some (.int x.length) else none
  | _ => none
theorem cd_len {K : KW} : CallD K (fun xs H Q => ∃ x n, xs = [x] ∧ LenV K x H n ∧ Q (.int n) H) gLen := by
  intro xs ds z H V Q s r e q
  cases r with
  | nil => cases e
  | cons r1 r2 =>
    cases r2 with
    | cons _ _ => cases r1 <;> cases e
    | nil =>
      cases r1 with
      | @lst a ys es ha ra => cases e; exact ⟨_, ys.length, rfl, .inl ⟨ys, .inl (.inl (s _ _ ha)), rfl⟩, by rw [ra.length]; exact q _ _ _ (Ext.refl s) (.int _)⟩
      | @tup a ys es ha ra => cases e; exact ⟨_, ys.length, rfl, .inr ⟨ys, sqt s ha, rfl⟩, by rw [ra.length]; exact q _ _ _ (Ext.refl s) (.int _)⟩
      | str x =>
        obtain ⟨h, rfl⟩ := ite_some e
        exact ⟨_, _, rfl, ⟨Nat.le_trans h lim_le, rfl⟩, q _ _ _ (Ext.refl s) (.int _)⟩
      | _ => cases e
end DL
set_option Elab.async false
set_option linter.all false
set_option maxRecDepth 100000
set_option maxHeartbeats 1000000
namespace DL
open PySem PySem.Spec PyProof.Rows L2
variable [TabCtx]
inductive O where
  | nx (ρ : Rho)
  | rt (d : PyData) (ρ : Rho)
  | rf (d : PyData) (ρ : Rho)
  | bk (ρ : Rho)
  | ct (ρ : Rho)
  | exc (c : Str)
  | bad
abbrev SM := Rho → O
def seqO (f g : SM) : SM := fun ρ => match f ρ with
  | .nx ρ' => g ρ'
  | o => o
def nxO : SM := fun ρ => .nx ρ
section
variable {K : KW} {F : Fr} {σ : St} {ρ ρ1 : Rho} {H V H1 V1 : Hp}
/-- a value that is new since the frame began -/
def Fsh (F : Fr) (v : L2.V) : Prop := ∀ p, v = .ref p → F.H0 p = none ∧ F.lent ≠ some p
/-- what is wanted behind a statement -/
def GoalS (K : KW) (F : Fr) (V : Hp) (o : O) (D : Ends) : Prop := match o with
  | .nx ρ' => ∀ σ' H' V', EnvR K F H' V' σ' ρ' → Same V V' → D.nx σ' H'
  | .rt d ρ' => ∀ v σ' H' V', EnvR K F H' V' σ' ρ' → Same V V' → Rep K V' v d → D.rt v H'
  | .rf d ρ' => ∀ v σ' H' V', EnvR K F H' V' σ' ρ' → Same V V' → Rep K V' v d → Fsh F v → D.rt v H'
  | .bk ρ' => ∀ σ' H' V', EnvR K F H' V' σ' ρ' → Same V V' → D.bk σ' H'
  | .ct ρ' => ∀ σ' H' V', EnvR K F H' V' σ' ρ' → Same V V' → D.ct σ' H'
  | .exc c => ∀ σ' H' V', Ext F.H0 F.V0 H' V' → F.W (.ref (He.ga K c)) σ' H'
  | .bad => False
def tS (K : KW) (F : Fr) (f : SM) : TS := fun D σ H => ∃ V ρ, EnvR K F H V σ ρ ∧ GoalS K F V (f ρ) D
theorem GoalS.mono {o : O} {D : Ends} (v : Same V V1) (g : GoalS K F V o D) : GoalS K F V1 o D := by
  cases o with
  | nx ρ' => exact fun σ' H' V' E s => g σ' H' V' E (v.trans s)
  | rt d ρ' => exact fun x σ' H' V' E s => g x σ' H' V' E (v.trans s)
  | rf d ρ' => exact fun x σ' H' V' E s => g x σ' H' V' E (v.trans s)
  | bk ρ' => exact fun σ' H' V' E s => g σ' H' V' E (v.trans s)
  | ct ρ' => exact fun σ' H' V' E s => g σ' H' V' E (v.trans s)
  | exc c => exact g
  | bad => exact g
/-- an expression ahead of a statement's end -/
def exO {α : Type} (f : M α) (k : α → SM) : SM := fun ρ => match f ρ with
  | .ok (a, ρ') => k a ρ'
  | .exc c => .exc c
  | .bad => .bad
theorem Goal.ex {α β : Type} {rep1 : Hp → β → α → Prop} {f : M α} {k : α → SM} {D : Ends} {Q1 : β → Hp → Prop}
    (g : GoalS K F V (exO f k ρ) D)
    (h : ∀ b a H' V' ρ', Stp K F σ ρ ρ' H V H' V' → rep1 V' b a → GoalS K F V' (k a ρ') D → Q1 b H') : Goal K F σ ρ H V rep1 (f ρ) Q1 := by
  unfold exO at g
  cases e : f ρ with
  | ok p =>
    obtain ⟨a, ρ'⟩ := p
    rw [e] at g
    exact fun b H' V' st r => h b a H' V' ρ' st r (GoalS.mono st.v g)
  | exc c => rw [e] at g; exact fun H' V' x => g σ H' V' x
  | bad => rw [e] at g; exact g
end
def PMS (X : Cx) (F : Fr) (st : Stmt) (f : SM) : Prop := PS X st (tS X.kw F f)
def PMSs (X : Cx) (F : Fr) (st : List Stmt) (f : SM) : Prop := PSs X st (tS X.kw F f)
section
variable {X : Cx} {F : Fr} {st : Stmt} {rest sts : List Stmt} {f g : SM} {e : Expr} {fa : M PyData} {ft : M Bool} {pos : Pos}
theorem pms_nil : PMSs X F [] nxO := PSs.imp pss_nil fun D σ H ⟨V, ρ, E, g⟩ => g σ H V E (Same.refl _)
theorem pms_cons (h1 : PMS X F st f) (h2 : PMSs X F rest g) : PMSs X F (st :: rest) (seqO f g) := by
  refine PSs.imp (pss_cons h1 h2) fun D σ H ⟨V, ρ, E, g0⟩ => ⟨V, ρ, E, ?_⟩
  unfold seqO at g0
  cases e : f ρ with
  | nx ρ' => rw [e] at g0; exact fun σ' H' V' E' v => ⟨V', ρ', E', GoalS.mono v g0⟩
  | rt d ρ' => rw [e] at g0; exact g0
  | rf d ρ' => rw [e] at g0; exact g0
  | bk ρ' => rw [e] at g0; exact g0
  | ct ρ' => rw [e] at g0; exact g0
  | exc c => rw [e] at g0; exact g0
  | bad => rw [e] at g0; exact g0
theorem pms_one (h1 : PMS X F st f) : PMSs X F [st] f := pss_one h1
def dropO (a : M PyData) : SM := exO a fun _ => nxO
theorem pms_expr (h : PM X F e fa) (hs : swapsWith e none pos.line X.env = pure false := by rfl) : PMS X F (.Expr e pos) (dropO fa) :=
  PS.imp (ps_expr h hs) fun D σ H ⟨V, ρ, E, g⟩ => ⟨V, ρ, E, Goal.ex g fun v d H1 V1 ρ1 st1 r1 g1 => g1 σ H1 V1 st1.env (Same.refl _)⟩
def retO (a : M PyData) : SM := exO a fun d ρ => .rt d ρ
theorem pms_ret (h : PM X F e fa) : PMS X F (.Return (some e) pos) (retO fa) :=
  PS.imp (ps_ret h) fun D σ H ⟨V, ρ, E, g⟩ => ⟨V, ρ, E, Goal.ex g fun v d H1 V1 ρ1 st1 r1 g1 => g1 v σ H1 V1 st1.env (Same.refl _) r1⟩
def ifO (t : M Bool) (f g : SM) : SM := exO t fun b => if b = true then f else g
theorem pms_if {c : Expr} {a b : List Stmt} (hc : PMT X F c ft) (ha : PMSs X F a f) (hb : PMSs X F b g) : PMS X F (.If c a b pos) (ifO ft f g) := by
  refine PS.imp (ps_if hc ha hb) fun D σ H ⟨V, ρ, E, g⟩ => ⟨V, ρ, E, Goal.ex g fun v d H1 V1 ρ1 st1 r1 g1 => ?_⟩
  subst r1
  cases v with
  | true => exact ⟨V1, ρ1, st1.env, g1⟩
  | false => exact ⟨V1, ρ1, st1.env, g1⟩
/-- an exception: raise C('..') -/
def raiseO (c : Str) : SM := fun _ => .exc c
theorem takesN0 {X : Cx} : L2N.Takes X (fun _ _ _ _ => False) := fun _ _ ⟨_, _, _, _, _, _, _, _, _, _, _, _, _, _, _, _, w⟩ => w.elim
/-- what the context asks: exceptions reach the frame's wish -/
def Tk (X : Cx) (F : Fr) : Prop := L2N.Takes X fun cls d σ H => d = none ∧ F.W cls σ H
structure ExcF (K : PySem.W.Frag) (mg : Str → Option Value) (c : Str) : Prop where
  g : mg c = some (.ref (He.ga K c))
  x : PySem.W.excIn K (He.ga K c) He.veBase "ValueError.__new__" = true ∧ PySem.W.keepIn K (.ref (He.ga K c)) = true ∧ PySem.W.subIn K (.ref (He.ga K c)) (.type "BaseException") = some true ∧ PySem.W.typeIn K (.ref (He.ga K c)) = some (.type "type")
theorem pms_raise {c m : Str} {j : Nat} {p p2 pos2 : Pos} (T : ExcF X.K X.mg c) (tk : Tk X F) (hc : X.calm = true := by rfl) (hg : Gl X c := by rfl) (hdb : (c == ("__debug__" : Str)) = false := by decide) : PMS X F (.Raise (some (.Call (.Name c p) [.Constant (.str m) j p2] [] pos2)) none pos) (raiseO c) := by
  refine PS.imp (L2N.ps_raise hc tk (L2N.pmk_own PySem.F.excBase_ValueError T.x.1 T.g T.x.2.1 (raises_own T.x.2.2.1 T.x.2.2.2) hg hdb)) fun D σ H ⟨V, ρ, E, g⟩ => ?_
  exact ⟨rfl, g σ H V E.ext⟩
end
def GM := PyData → Rho → R Rho
def tGM (K : KW) (F : Fr) (is : List Nat) (g : GM) : TG := fun v σ H Q => ∃ V ρ d, EnvR K F H V σ ρ ∧ Rep K V v d ∧ match g d ρ with
  | .ok ρ' => ∀ σ' H' V', EnvR K F H' V' σ' ρ' → Ext H V H' V' → (∀ vs : List Nat, (∀ i ∈ is, i ∈ vs) → wipe σ' vs = wipe σ vs) → (∀ b, IsOwn σ' ρ' b → IsOwn σ ρ b) → (∀ (i : Nat) (d : PyData), i ∉ is → ρ'[i]? = some (.sh d) → ρ[i]? = some (.sh d)) → Q σ' H'
  | .exc _ => False
  | .bad => False
def PMG (X : Cx) (F : Fr) (tg : Expr) (is : List Nat) (g : GM) : Prop := PG X tg (tGM X.kw F is g)
def PMGs (X : Cx) (F : Fr) (tgs : List Expr) (is : List Nat) (g : List PyData → Rho → R Rho) : Prop := PGs X tgs fun vs σ H Q => ∃ V ρ ds, EnvR X.kw F H V σ ρ ∧ RepL X.kw V vs ds ∧ match g ds ρ with
  | .ok ρ' => ∀ σ' H' V', EnvR X.kw F H' V' σ' ρ' → Ext H V H' V' → (∀ vs : List Nat, (∀ i ∈ is, i ∈ vs) → wipe σ' vs = wipe σ vs) → (∀ b, IsOwn σ' ρ' b → IsOwn σ ρ b) → (∀ (i : Nat) (d : PyData), i ∉ is → ρ'[i]? = some (.sh d) → ρ[i]? = some (.sh d)) → Q σ' H'
  | .exc _ => False
  | .bad => False
theorem PG.imp {X : Cx} {e : Expr} {t u : TG} (h : PG X e t) (i : ∀ v σ H Q, u v σ H Q → t v σ H Q) : PG X e u := ⟨fun pins s σ H v w Q I r q => h.run pins s σ H v w Q I r (i v σ H Q q)⟩
theorem PGs.imp {X : Cx} {e : List Expr} {t u : TGs} (h : PGs X e t) (i : ∀ v σ H Q, u v σ H Q → t v σ H Q) : PGs X e u := ⟨fun pins s σ H v w Q I r q => h.run pins s σ H v w Q I r (i v σ H Q q)⟩
/-- a slot is given data -/
def setS (i : Nat) : GM := fun d ρ => if i < ρ.length then .ok (ρ.set i (.sh d)) else .bad
section
variable {K : KW} {F : Fr} {σ : St} {ρ ρ1 : Rho} {H V H1 V1 : Hp} {X : Cx} {pos : Pos}
theorem EnvR.setSh (E : EnvR K F H V σ ρ) {i : Nat} {v : L2.V} {d : PyData} (r : Rep K V v d) (hl : i ≠ F.ls ∨ F.lent = none) : EnvR K F H V (σ.set i (some v)) (ρ.set i (.sh d)) := by
  have hlen := E.len
  refine ⟨by simp [hlen], E.ext, fun j e h => ?_, fun j e h => ?_, fun j k a e e' h1 h2 h3 h4 => ?_, fun a ha => ?_, E.tab⟩
  · by_cases hj : i = j
    · subst hj
      by_cases hi : i < ρ.length
      · rw [List.getElem?_set_self hi] at h
        cases h
        exact ⟨v, List.getElem?_set_self (by omega), r⟩
      · rw [List.getElem?_eq_none (by simpa using hi)] at h; cases h
    · rw [List.getElem?_set_ne hj] at h ⊢
      exact E.sh j e h
  · by_cases hj : i = j
    · subst hj
      by_cases hi : i < ρ.length
      · rw [List.getElem?_set_self hi] at h; cases h
      · rw [List.getElem?_eq_none (by simpa using hi)] at h; cases h
    · rw [List.getElem?_set_ne hj] at h ⊢
      exact E.ow j e h
  · have ne : ∀ {m : Nat} {x : PyData}, (ρ.set i (.sh d))[m]? = some (.ow x) → i ≠ m := fun {m x} q z => by
      subst z
      by_cases hi : i < ρ.length
      · rw [List.getElem?_set_self hi] at q; cases q
      · rw [List.getElem?_eq_none (by simpa using hi)] at q; cases q
    have n1 := ne h1
    have n2 := ne h2
    rw [List.getElem?_set_ne n1] at h1 h3
    rw [List.getElem?_set_ne n2] at h2 h4
    exact E.dis j k a e e' h1 h2 h3 h4
  · rcases hl with hl | hl
    · rw [List.getElem?_set_ne hl]; exact E.lent a ha
    · rw [hl] at ha; cases ha
theorem wipe_set {σ : St} {i : Nat} {x : Option L2.V} : ∀ {vs : List Nat}, i ∈ vs → wipe (σ.set i x) vs = wipe σ vs
  | [], h => by cases h
  | v :: vs, h => by
    show (wipe (σ.set i x) vs).set v none = (wipe σ vs).set v none
    by_cases e : i ∈ vs
    · rw [wipe_set e]
    · have e2 : i = v := by
        rcases List.mem_cons.mp h with z | z
        · exact z
        · exact absurd z e
      subst e2
      have key : ∀ {ws : List Nat}, i ∉ ws → wipe (σ.set i x) ws = (wipe σ ws).set i x := by
        intro ws
        induction ws with
        | nil => intro _; rfl
        | cons w ws ih =>
          intro hn
          show (wipe (σ.set i x) ws).set w none = ((wipe σ ws).set w none).set i x
          rw [ih fun z => hn (List.mem_cons_of_mem _ z), List.set_comm _ _ (fun z => hn (by rw [z]; exact List.mem_cons_self))]
      rw [key e, List.set_set]
theorem isOwn_set {σ : St} {ρ : Rho} {i : Nat} {d : PyData} {v : Option L2.V} {b : Addr} (h : IsOwn (σ.set i v) (ρ.set i (.sh d)) b) : IsOwn σ ρ b := by
  obtain ⟨j, e, h1, h2⟩ := h
  have ne : i ≠ j := fun z => by
    subst z
    by_cases hi : i < ρ.length
    · rw [List.getElem?_set_self hi] at h1; cases h1
    · rw [List.getElem?_eq_none (by simpa using hi)] at h1; cases h1
  rw [List.getElem?_set_ne ne] at h1 h2
  exact ⟨j, e, h1, h2⟩
theorem pmg_name (i : Nat) {x : Str} (hN : X.N.Nodup) (hi : X.N[i]? = some x := by rfl) (hx : Loc X.env.scope x := by first | exact Or.inl rfl | exact Or.inr rfl) (hl : i ≠ F.ls ∨ F.lent = none := by first | exact Or.inr rfl | exact Or.inl (ne_ls rfl))
    (hf : X.fn x = true ∨ X.env.scope.names.lookup x = some .local := by first | exact .inl rfl | exact .inr rfl | assumption) : PMG X F (.Name x pos) [i] (setS i) := by
  refine PG.imp (pg_name hN hi hx hf) fun v σ H Q ⟨V, ρ, d, E, r, g⟩ => ?_
  unfold setS at g
  by_cases hlt : i < ρ.length
  · rw [if_pos hlt] at g
    exact g _ _ _ (E.setSh r hl) (Ext.refl E.sub) (fun vs hv => wipe_set (hv i (List.mem_singleton.mpr rfl))) (fun b hb => isOwn_set hb) fun j e hj q => by
      rw [List.getElem?_set_ne (fun z => hj (List.mem_singleton.mpr z.symm))] at q
      exact q
  · rw [if_neg hlt] at g
    exact False.elim g
def gsN : List PyData → Rho → R Rho := fun ds ρ => match ds with
  | [] => .ok ρ
  | _ => .bad
def gsC (g : GM) (gs : List PyData → Rho → R Rho) : List PyData → Rho → R Rho := fun ds ρ => match ds with
  | d :: ds => R.bind (g d ρ) fun ρ' => gs ds ρ'
  | [] => .bad
theorem pmgs_nil : PMGs X F [] [] gsN := by
  refine PGs.imp pgs_nil fun vs σ H Q ⟨V, ρ, ds, E, r, g⟩ => ?_
  cases r with
  | nil => exact ⟨rfl, g _ _ _ E (Ext.refl E.sub) (fun _ _ => rfl) (fun _ h => h) fun _ _ _ h => h⟩
  | cons _ _ => exact False.elim g
theorem pmgs_cons {e : Expr} {es : List Expr} {is js : List Nat} {g : GM} {gs : List PyData → Rho → R Rho} (h1 : PMG X F e is g) (h2 : PMGs X F es js gs)
    (hs : (assignEach (e :: es) X.env).map (·.2) = assign e X.env :: (assignEach es X.env).map (·.2) := by rfl) : PMGs X F (e :: es) (is ++ js) (gsC g gs) := by
  refine PGs.imp (pgs_cons h1 h2 hs) fun vs σ H Q ⟨V, ρ, ds, E, r, g0⟩ => ?_
  cases r with
  | nil => exact False.elim g0
  | @cons v vs d ds r1 r2 =>
    refine ⟨v, vs, rfl, V, ρ, d, E, r1, ?_⟩
    have g0 : (match R.bind (g d ρ) fun ρ' => gs ds ρ' with
      | .ok ρ' => ∀ σ' H' V', EnvR X.kw F H' V' σ' ρ' → Ext H V H' V' → (∀ vs : List Nat, (∀ i ∈ is ++ js, i ∈ vs) → wipe σ' vs = wipe σ vs) → (∀ b, IsOwn σ' ρ' b → IsOwn σ ρ b) → (∀ (i : Nat) (d : PyData), i ∉ is ++ js → ρ'[i]? = some (.sh d) → ρ[i]? = some (.sh d)) → Q σ' H'
      | .exc _ => False
      | .bad => False) := g0
    cases e1 : g d ρ with
    | ok ρ1 =>
      rw [e1] at g0
      intro σ1 H1 V1 E1 x1 w1 o1 p1
      refine ⟨V1, ρ1, ds, E1, r2.mono x1.v, ?_⟩
      have g0 : (match gs ds ρ1 with
        | .ok ρ' => ∀ σ' H' V', EnvR X.kw F H' V' σ' ρ' → Ext H V H' V' → (∀ vs : List Nat, (∀ i ∈ is ++ js, i ∈ vs) → wipe σ' vs = wipe σ vs) → (∀ b, IsOwn σ' ρ' b → IsOwn σ ρ b) → (∀ (i : Nat) (d : PyData), i ∉ is ++ js → ρ'[i]? = some (.sh d) → ρ[i]? = some (.sh d)) → Q σ' H'
        | .exc _ => False
        | .bad => False) := g0
      cases e2 : gs ds ρ1 with
      | ok ρ2 =>
        rw [e2] at g0
        intro σ2 H2 V2 E2 x2 w2 o2 p2
        exact g0 σ2 H2 V2 E2 (x1.trans x2) (fun vs hv => (w2 vs fun i hi => hv i (List.mem_append_right _ hi)).trans (w1 vs fun i hi => hv i (List.mem_append_left _ hi))) (fun b hb => o1 b (o2 b hb)) fun i d hi q => p1 i d (fun z => hi (List.mem_append_left _ z)) (p2 i d (fun z => hi (List.mem_append_right _ z)) q)
      | exc c => rw [e2] at g0; exact g0
      | bad => rw [e2] at g0; exact g0
    | exc c => rw [e1] at g0; exact g0
    | bad => rw [e1] at g0; exact g0
/-- a tuple taken apart -/
def unT (gs : List PyData → Rho → R Rho) : GM := fun d ρ => match d with
  | .tuple ds => gs ds ρ
  | _ => .bad
theorem pmg_tup {es : List Expr} {k : Nat} {is : List Nat} {gs : List PyData → Rho → R Rho} {n : Nat} (h : PMGs X F es is gs) (hgn : ∀ ds ρ ρ', gs ds ρ = .ok ρ' → ds.length = n) (hc : X.calm = true := by rfl)
    (hn : (assignEach es X.env).length = n := by rfl) (hst : (assignEach es X.env).findIdx? (·.1) = none := by rfl) : PMG X F (.Tuple es k pos) is (unT gs) := by
  refine PG.imp (pg_tup hc h hn hst) fun v σ H Q ⟨V, ρ, d, E, r, g⟩ => ?_
  cases r with
  | @tup a xs ds ha ra =>
    have g : (match gs ds ρ with
      | .ok ρ' => ∀ σ' H' V', EnvR X.kw F H' V' σ' ρ' → Ext H V H' V' → (∀ vs : List Nat, (∀ i ∈ is, i ∈ vs) → wipe σ' vs = wipe σ vs) → (∀ b, IsOwn σ' ρ' b → IsOwn σ ρ b) → (∀ (i : Nat) (d : PyData), i ∉ is → ρ'[i]? = some (.sh d) → ρ[i]? = some (.sh d)) → Q σ' H'
      | .exc _ => False
      | .bad => False) := g
    refine ⟨a, xs, rfl, sqt E.sub ha, ?_, V, ρ, ds, E, ra, g⟩
    cases e : gs ds ρ with
    | ok ρ' => rw [ra.length]; exact hgn ds ρ ρ' e
    | exc c => rw [e] at g; exact False.elim g
    | bad => rw [e] at g; exact False.elim g
  | _ => exact False.elim g
/-- assignment -/
def asgO (a : M PyData) (g : GM) : SM := exO a fun d ρ => match g d ρ with
  | .ok ρ' => .nx ρ'
  | .exc c => .bad
  | .bad => .bad
theorem asg_goal {D : Ends} {is : List Nat} {g : GM} {d : PyData} {v : L2.V} (E : EnvR K F H V σ ρ) (r : Rep K V v d) (g1 : GoalS K F V (match g d ρ with
  | .ok ρ' => .nx ρ'
  | .exc c => .bad
  | .bad => .bad) D) : tGM K F is g v σ H D.nx := by
  refine ⟨V, ρ, d, E, r, ?_⟩
  cases e : g d ρ with
  | ok ρ' => rw [e] at g1; exact fun σ' H' V' E' x _ _ _ => g1 σ' H' V' E' x.v
  | exc c => rw [e] at g1; exact g1
  | bad => rw [e] at g1; exact g1
theorem pms_asg {tg e : Expr} {fa : M PyData} {is : List Nat} {g : GM} (he : PM X F e fa) (hg : PMG X F tg is g) (hs : swapsWithSole [tg] e pos.line X.env = pure false := by rfl) (hw : swappedStores [tg] e X.env = pure none := by rfl)
    (h1 : (assignEach [tg] X.env).map (·.2) = [assign tg X.env] := by rfl) : PMS X F (.Assign [tg] e pos) (asgO fa g) :=
  PS.imp (ps_asg he hg hs hw h1) fun D σ H ⟨V, ρ, E, g⟩ => ⟨V, ρ, E, Goal.ex g fun v d H1 V1 ρ1 st1 r1 g1 => asg_goal st1.env r1 g1⟩
theorem pms_set (i : Nat) {x : Str} {e : Expr} {fa : M PyData} {pos' : Pos} (he : PM X F e fa) (hN : X.N.Nodup) (hi : X.N[i]? = some x := by rfl) (hx : Loc X.env.scope x := by first | exact Or.inl rfl | exact Or.inr rfl) (hl : i ≠ F.ls ∨ F.lent = none := by first | exact Or.inr rfl | exact Or.inl (ne_ls rfl))
    (hs : swapsWith e (some (.Name x pos')) pos.line X.env = pure false := by rfl) (hf : X.fn x = true ∨ X.env.scope.names.lookup x = some .local := by first | exact .inl rfl | exact .inr rfl | assumption) :
    PMS X F (.Assign [.Name x pos'] e pos) (asgO fa (setS i)) := by
  refine PS.imp (ps_set hN hi hx he hs hf) fun D σ H ⟨V, ρ, E, g⟩ => ⟨V, ρ, E, Goal.ex g fun v d H1 V1 ρ1 st1 r1 g1 => ?_⟩
  unfold setS at g1
  by_cases hlt : i < ρ1.length
  · rw [if_pos hlt] at g1
    exact g1 _ _ _ (st1.env.setSh r1 hl) (Same.refl _)
  · rw [if_neg hlt] at g1
    exact False.elim g1
/-- a, b = x, y -/
def par2 (i j : Nat) (a : M (List PyData)) : SM := exO a fun ds ρ => match ds with
  | [x, y] => if i < ρ.length ∧ j < ρ.length then .nx ((ρ.set i (.sh x)).set j (.sh y)) else .bad
  | _ => .bad
theorem pms_par (i j : Nat) {x y : Str} {a b : Expr} {fs : M (List PyData)} {px py pt : Pos} {kt k2 pt2} (ha : PMA X F [a, b] fs) (hN : X.N.Nodup) (hi : X.N[i]? = some x := by rfl) (hj : X.N[j]? = some y := by rfl) (hij : i ≠ j := by decide)
    (hx : X.env.scope.names.lookup x = some .local := by rfl) (hy : X.env.scope.names.lookup y = some .local := by rfl) (hli : i ≠ F.ls ∨ F.lent = none := by first | exact Or.inr rfl | exact Or.inl (ne_ls rfl)) (hlj : j ≠ F.ls ∨ F.lent = none := by first | exact Or.inr rfl | exact Or.inl (ne_ls rfl))
    (hw : swappedStores [.Tuple [.Name x px, .Name y py] kt pt] (.Tuple [a, b] k2 pt2) X.env = pure (some [x, y]) := by rfl)
    (hs : swapsWithSole [.Tuple [.Name x px, .Name y py] kt pt] (.Tuple [a, b] k2 pt2) pos.line X.env = pure false := by rfl) (hc : X.calm = true := by rfl) :
    PMS X F (.Assign [.Tuple [.Name x px, .Name y py] kt pt] (.Tuple [a, b] k2 pt2) pos) (par2 i j fs) := by
  refine PS.imp (ps_par hc hN hi hj hij hx hy ha hw hs) fun D σ H ⟨V, ρ, E, g⟩ => ⟨V, ρ, E, Goal.ex g fun vs ds H1 V1 ρ1 st1 r1 g1 => ?_⟩
  cases r1 with
  | nil => exact False.elim g1
  | @cons v vs d ds r1 r2 =>
    cases r2 with
    | nil => exact False.elim g1
    | @cons v2 vs d2 ds r2 r3 =>
      cases r3 with
      | cons _ _ => exact False.elim g1
      | nil =>
        have g1 : GoalS X.kw F V1 (if i < ρ1.length ∧ j < ρ1.length then .nx ((ρ1.set i (.sh d)).set j (.sh d2)) else .bad) D := g1
        by_cases hlt : i < ρ1.length ∧ j < ρ1.length
        · rw [if_pos hlt] at g1
          exact ⟨v, v2, rfl, g1 _ _ _ ((st1.env.setSh r1 hli).setSh r2 hlj) (Same.refl _)⟩
        · rw [if_neg hlt] at g1
          exact False.elim g1
end
end DL
set_option Elab.async false
set_option linter.all false
set_option maxRecDepth 100000
set_option maxHeartbeats 1000000
namespace DL
open PySem PySem.Spec PyProof.Rows L2
variable [TabCtx]
/-- it walks ds, whatever comes beside what is seen at V -/
def ItD (K : KW) (J : It) (V : Hp) (ds : List PyData) : Prop := ∀ (i : Nat) (H' V' : Hp), Same V V' → Same V' H' →
  (∀ d, ds[i]? = some d → J.go i H' ∧ ∀ x H'', J.yld i H' x H'' → ∃ V'', Ext H' V' H'' V'' ∧ Rep K V'' x d) ∧ (i = ds.length → J.stop i H')
theorem ItD.mono {K : KW} {J : It} {V V1 : Hp} {ds : List PyData} (h : ItD K J V ds) (v : Same V V1) : ItD K J V1 ds := fun i H' V' s1 s2 => h i H' V' (v.trans s1) s2
def tI (K : KW) (F : Fr) (f : M (List PyData)) : TI := fun σ H R => ∃ V ρ, EnvR K F H V σ ρ ∧ Goal K F σ ρ H V (fun V' (J : It) ds => ItD K J V' ds) (f ρ) R
def PMI (X : Cx) (F : Fr) (tg iter : Expr) (f : M (List PyData)) : Prop := PI X tg iter (tI X.kw F f)
theorem PI.imp {X : Cx} {tg e : Expr} {t u : TI} (h : PI X tg e t) (i : ∀ σ H Q, u σ H Q → t σ H Q) : PI X tg e u := ⟨fun pins s σ H R I q => h.run pins s σ H R I (i σ H R q)⟩
def itL {K : KW} {a : Addr} {xs : List L2.V} {V : Hp} {ds : List PyData} (h : V a = some (.lst xs)) (r : RepL K V xs ds) : ItD K (Itl K a) V ds := by
  intro i H' V' s1 s2
  have hq : SqL K H' a xs := .inl (.inl (s2 _ _ (s1 _ _ h)))
  refine ⟨fun d hd => ?_, fun e => ⟨xs, hq, by rw [r.length, e]; exact Nat.le_refl _⟩⟩
  obtain ⟨v, h1, h2⟩ := r.get i hd
  refine ⟨⟨xs, v, hq, h1⟩, fun x H'' hy => ?_⟩
  obtain ⟨e, hy⟩ := hy
  subst e
  have e2 : v = x := Option.some.inj (h1.symm.trans (hy xs hq))
  subst e2
  exact ⟨V', Ext.refl s2, h2.mono s1⟩
def itT {K : KW} {a : Addr} {xs : List L2.V} {V : Hp} {ds : List PyData} (h : V a = some (.tup xs)) (r : RepL K V xs ds) : ItD K (Itt K a) V ds := by
  intro i H' V' s1 s2
  have hq : SqT K H' a xs := sqt s2 (s1 _ _ h)
  refine ⟨fun d hd => ?_, fun e => ⟨xs, hq, by rw [r.length, e]; exact Nat.le_refl _⟩⟩
  obtain ⟨v, h1, h2⟩ := r.get i hd
  refine ⟨⟨xs, v, hq, h1⟩, fun x H'' hy => ?_⟩
  obtain ⟨e, hy⟩ := hy
  subst e
  have e2 : v = x := Option.some.inj (h1.symm.trans (hy xs hq))
  subst e2
  exact ⟨V', Ext.refl s2, h2.mono s1⟩
def signD (c : Nat) : PyData := .str ⟨#[c]⟩
def itS {K : KW} {x : Str} {V : Hp} : ItD K (Its x) V (x.cps.toList.map signD) := by
  intro i H' V' s1 s2
  refine ⟨fun d hd => ?_, fun e => ?_⟩
  · rw [List.getElem?_map] at hd
    obtain ⟨c, hc, ed⟩ := Option.map_eq_some_iff.mp hd
    subst ed
    have hlt : i < x.cps.toList.length := (List.getElem?_eq_some_iff.mp hc).1
    refine ⟨by show i < x.cps.size; simpa using hlt, fun v H'' hy => ?_⟩
    obtain ⟨e, c', hc', ev⟩ := hy
    subst e ev
    have e2 : c = c' := by
      rw [← Array.getElem?_toList] at hc'
      exact Option.some.inj (hc.symm.trans hc')
    subst e2
    exact ⟨V', Ext.refl s2, .str _⟩
  · show x.cps.size ≤ i
    rw [e, List.length_map, Array.length_toList]
    exact Nat.le_refl _
def rangeD (lo : Int) (n : Nat) : List PyData := (List.range n).map fun i => .int (lo + (i : Nat))
def itR {K : KW} {lo : Int} {n : Nat} {V : Hp} : ItD K (Itr lo n) V (rangeD lo n) := by
  intro i H' V' s1 s2
  unfold rangeD
  refine ⟨fun d hd => ?_, fun e => ?_⟩
  · rw [List.getElem?_map] at hd
    obtain ⟨c, hc, ed⟩ := Option.map_eq_some_iff.mp hd
    obtain ⟨h1, h2⟩ := List.getElem?_eq_some_iff.mp hc
    rw [List.length_range] at h1
    rw [List.getElem_range] at h2
    subst h2 ed
    refine ⟨h1, fun v H'' hy => ?_⟩
    obtain ⟨e, ev⟩ := hy
    subst e ev
    exact ⟨V', Ext.refl s2, .int _⟩
  · show n ≤ i
    rw [e, List.length_map, List.length_range]
    exact Nat.le_refl _
/-- a list, a tuple, a text -/
def itemsD : PyData → Option (List PyData)
  | .list ds => some ds
  | .tuple ds => some ds
  | .str x => some (x.cps.toList.map signD)
  | _ => none
def seqI (a : M PyData) : M (List PyData) := M.bind a fun d => M.opt (itemsD d)
def iSeq (K : KW) (tl : TE) : TI := fun σ H R => tl σ H fun x H1 => (∃ a, x = .ref a ∧ (∃ xs, SqL K H1 a xs) ∧ R (Itl K a) H1) ∨ (∃ a, x = .ref a ∧ (∃ xs, SqT K H1 a xs) ∧ R (Itt K a) H1) ∨ ∃ z, x = .str z ∧ R (Its z) H1
section
variable {X : Cx} {F : Fr} {tg l e e2 : Expr} {pos : Pos} {fa fb : M PyData} {fs : M (List PyData)}
theorem pi_seq {tl : TE} (hl : PE X l tl) : PI X tg l (iSeq X.kw tl) := by
  refine ⟨fun pins s σ H R I h => ?_⟩
  refine thn (hl.run pins s σ H _ I h) fun v s1 ⟨x, H1, I1, r1, q1⟩ => ?_
  rcases q1 with ⟨a, e, ⟨xs, hq⟩, q⟩ | ⟨a, e, ⟨xs, hq⟩, q⟩ | ⟨z, e, q⟩
  · subst e
    cases r1
    obtain ⟨its, rv, p, hz⟩ := I1.list hq
    refine wpAny_pyIter_list p.isList ?_
    refine ⟨s1.heap.objs.size, [s1.heap.objs.size], _, _, H1, rfl, I1.kept (t' := s1.toks) fun b o e => Heap.get?_push_of_some _ e, turn_list a _, ⟨_, Heap.get?_push_size _ rfl, rfl, rfl⟩, fun b hb => ?_, q⟩
    have e : b = s1.heap.objs.size := by simpa using hb
    subst e
    exact I1.fpOk (Nat.le_refl _) (I1.hok.fresh (Nat.le_refl _))
  · subst e
    cases r1
    obtain ⟨its, rv, p, hz⟩ := I1.tuple hq
    refine wpAny_pyIter_tuple (show s1.heap.IsTuple a its.toArray from p) ?_
    refine ⟨s1.heap.objs.size, [s1.heap.objs.size], _, _, H1, rfl, I1.kept (t' := s1.toks) fun b o e => Heap.get?_push_of_some _ e, turn_tuple a _, ⟨_, Heap.get?_push_size _ rfl, rfl, rfl⟩, fun b hb => ?_, q⟩
    have e : b = s1.heap.objs.size := by simpa using hb
    subst e
    exact I1.fpOk (Nat.le_refl _) (I1.hok.fresh (Nat.le_refl _))
  · subst e
    obtain ⟨t, rfl⟩ := r1
    cases ha : z.cps.all (· < 128)
    · exact wpAny_pyIter_wide ha (pi_one (tk := s1.toks) I1 _ (turn_str _ z t "str_iterator" (.inr rfl)) ⟨_, Heap.get?_push_size _ rfl, rfl, rfl⟩ q)
    · exact wpAny_pyIter_ascii ha (pi_one (tk := s1.toks) I1 _ (turn_str _ z t "str_ascii_iterator" (.inl rfl)) ⟨_, Heap.get?_push_size _ rfl, rfl, rfl⟩ q)
theorem pmi_seq (h : PM X F l fa) : PMI X F tg l (seqI fa) := by
  refine PI.imp (pi_seq h) fun σ H R ⟨V, ρ, E, g0⟩ => ⟨V, ρ, E, Goal.bind g0 fun x dx H1 V1 ρ1 st1 r1 g1 => ?_⟩
  obtain ⟨z, ez, q⟩ := Goal.opt st1.env g1
  have s := st1.env.sub
  cases r1 with
  | @lst a xs ds ha ra => cases ez; exact .inl ⟨a, rfl, ⟨xs, .inl (.inl (s _ _ ha))⟩, q _ _ _ (Ext.refl s) (itL ha ra)⟩
  | @tup a xs ds ha ra => cases ez; exact .inr (.inl ⟨a, rfl, ⟨xs, sqt s ha⟩, q _ _ _ (Ext.refl s) (itT ha ra)⟩)
  | str x => cases ez; exact .inr (.inr ⟨x, rfl, q _ _ _ (Ext.refl s) itS⟩)
  | _ => cases ez
def rg1 : List PyData → Option (List PyData)
  | [.int j] => if -(2 ^ 62) ≤ j ∧ j < 2 ^ 62 then some (rangeD 0 j.toNat) else none
  | _ => none
def opI (g : List PyData → Option (List PyData)) (a : M (List PyData)) : M (List PyData) := M.bind a fun ds => M.opt (g ds)
theorem ite_someL {α : Type} {c : Prop} [Decidable c] {a z : α} (h : (if c then some a else none) = some z) : c ∧ a = z := by
  by_cases hc : c
  · rw [if_pos hc] at h; exact ⟨hc, Option.some.inj h⟩
  · rw [if_neg hc] at h; cases h
theorem pmi_range1 {p : Pos} (hm : X.mg "range" = none) (ha : PMA X F [e] fs) (hg : Gl X "range" := by rfl) (hs : starEach [e] X.env = [(false, eval e X.env)] := by rfl) : PMI X F tg (.Call (.Name "range" p) [e] [] pos) (opI rg1 fs) := by
  refine PI.imp (pi_range1 hg hm ha hs) fun σ H R ⟨V, ρ, E, g0⟩ => ⟨V, ρ, E, Goal.bind g0 fun x dx H1 V1 ρ1 st1 r1 g1 => ?_⟩
  obtain ⟨z, ez, q⟩ := Goal.opt st1.env g1
  cases r1 with
  | nil => cases ez
  | cons r1 r2 =>
    cases r2 with
    | cons _ _ => cases r1 <;> cases ez
    | nil =>
      cases r1 with
      | int j =>
        obtain ⟨h, rfl⟩ := ite_someL ez
        exact ⟨j, rfl, h.1, h.2, q _ _ _ (Ext.refl st1.env.sub) itR⟩
      | _ => cases ez
def zipD (a b : List PyData) : List PyData := (a.zip b).map fun p => .tuple [p.1, p.2]
def gZip : List PyData → Option (List PyData)
  | [.list a, .list b] => some (zipD a b)
  | [.tuple a, .tuple b] => some (zipD a b)
  | _ => none
theorem zipD_get {a b : List PyData} {i : Nat} {d : PyData} (h : (zipD a b)[i]? = some d) : ∃ x y, a[i]? = some x ∧ b[i]? = some y ∧ d = .tuple [x, y] := by
  unfold zipD at h
  rw [List.getElem?_map] at h
  obtain ⟨⟨x, y⟩, h1, h2⟩ := Option.map_eq_some_iff.mp h
  obtain ⟨h3, h4⟩ := List.getElem?_zip_eq_some.mp h1
  exact ⟨x, y, h3, h4, h2.symm⟩
theorem zipD_len {a b : List PyData} : (zipD a b).length = min a.length b.length := by
  unfold zipD
  rw [List.length_map, List.length_zip]
theorem itZ {K : KW} {a b : Addr} {xs ys : List L2.V} {V : Hp} {ds es : List PyData} (ha : V a = some (.lst xs)) (ra : RepL K V xs ds) (hb : V b = some (.lst ys)) (rb : RepL K V ys es) : ItD K (Itz K a b) V (zipD ds es) := by
  intro i H' V' s1 s2
  have q1 : SqL K H' a xs := .inl (.inl (s2 _ _ (s1 _ _ ha)))
  have q2 : SqL K H' b ys := .inl (.inl (s2 _ _ (s1 _ _ hb)))
  refine ⟨fun d hd => ?_, fun e => ⟨xs, ys, q1, q2, ?_⟩⟩
  · obtain ⟨x, y, hx, hy, rfl⟩ := zipD_get hd
    obtain ⟨v, h1, h2⟩ := ra.get i hx
    obtain ⟨u, h3, h4⟩ := rb.get i hy
    refine ⟨⟨xs, ys, v, u, q1, q2, h1, h3⟩, fun z H'' hyl => ?_⟩
    obtain ⟨T, x', y', rfl, hT, rfl, f1, f2⟩ := hyl
    have e1 : v = x' := Option.some.inj (h1.symm.trans (f1 xs q1))
    have e2 : u = y' := Option.some.inj (h3.symm.trans (f2 ys q2))
    subst e1 e2
    exact ⟨_, Ext.new s2 hT, new_tup s2 hT (.cons (h2.mono s1) (.cons (h4.mono s1) .nil))⟩
  · rw [zipD_len] at e
    rw [ra.length, rb.length]
    omega
theorem itZT {K : KW} {a b : Addr} {xs ys : List L2.V} {V : Hp} {ds es : List PyData} (ha : V a = some (.tup xs)) (ra : RepL K V xs ds) (hb : V b = some (.tup ys)) (rb : RepL K V ys es) : ItD K (RZ.ItzT K a b) V (zipD ds es) := by
  intro i H' V' s1 s2
  have q1 : SqT K H' a xs := sqt s2 (s1 _ _ ha)
  have q2 : SqT K H' b ys := sqt s2 (s1 _ _ hb)
  refine ⟨fun d hd => ?_, fun e => ⟨xs, ys, q1, q2, ?_⟩⟩
  · obtain ⟨x, y, hx, hy, rfl⟩ := zipD_get hd
    obtain ⟨v, h1, h2⟩ := ra.get i hx
    obtain ⟨u, h3, h4⟩ := rb.get i hy
    refine ⟨⟨xs, ys, v, u, q1, q2, h1, h3⟩, fun z H'' hyl => ?_⟩
    obtain ⟨T, x', y', rfl, hT, rfl, f1, f2⟩ := hyl
    have e1 : v = x' := Option.some.inj (h1.symm.trans (f1 xs q1))
    have e2 : u = y' := Option.some.inj (h3.symm.trans (f2 ys q2))
    subst e1 e2
    exact ⟨_, Ext.new s2 hT, new_tup s2 hT (.cons (h2.mono s1) (.cons (h4.mono s1) .nil))⟩
  · rw [zipD_len] at e
    rw [ra.length, rb.length]
    omega
theorem pmi_zip {elts : List Expr} {kk : Nat} {tpos p : Pos} (hm : X.mg "zip" = none) (ha : PMA X F [e, e2] fs) (hg : Gl X "zip" := by rfl) (hs : starEach [e, e2] X.env = (false, eval e X.env) :: starEach [e2] X.env := by rfl) (hpl : (backTo pos (starEach [e2] X.env)).any (·.1) = false := by rfl) :
    PMI X F (.Tuple elts kk tpos) (.Call (.Name "zip" p) [e, e2] [] pos) (opI gZip fs) := by
  refine PI.imp (RZ.pi_zipA hg hm ha hs hpl) fun σ H R ⟨V, ρ, E, g0⟩ => ⟨V, ρ, E, Goal.bind g0 fun x dx H1 V1 ρ1 st1 r1 g1 => ?_⟩
  obtain ⟨z, ez, q⟩ := Goal.opt st1.env g1
  have s := st1.env.sub
  cases r1 with
  | nil => cases ez
  | cons r1 r2 =>
    cases r2 with
    | nil => cases r1 <;> cases ez
    | cons r2 r3 =>
      cases r3 with
      | cons _ _ => cases r1 <;> cases r2 <;> cases ez
      | nil =>
        cases r1 with
        | @lst a xs ds ha ra =>
          cases r2 with
          | @lst b ys es hb rb => cases ez; exact ⟨a, b, xs, ys, rfl, .inl ⟨.inl (.inl (s _ _ ha)), .inl (.inl (s _ _ hb)), q _ _ _ (Ext.refl s) (itZ ha ra hb rb)⟩⟩
          | _ => cases ez
        | @tup a xs ds ha ra =>
          cases r2 with
          | @tup b ys es hb rb => cases ez; exact ⟨a, b, xs, ys, rfl, .inr ⟨sqt s ha, sqt s hb, q _ _ _ (Ext.refl s) (itZT ha ra hb rb)⟩⟩
          | _ => cases ez
        | _ => cases r2 <;> cases ez
end
def loopO (g : GM) (body : SM) : List PyData → Rho → O
  | [], ρ => .nx ρ
  | d :: ds, ρ => match g d ρ with
    | .ok ρ1 => (match body ρ1 with
      | .nx ρ2 => loopO g body ds ρ2
      | .ct ρ2 => loopO g body ds ρ2
      | .bk ρ2 => .nx ρ2
      | .rt x ρ2 => .rt x ρ2
      | .rf x ρ2 => .rf x ρ2
      | .exc c => .exc c
      | .bad => .bad)
    | .exc _ => .bad
    | .bad => .bad
def forO (a : M (List PyData)) (g : GM) (body : SM) : SM := exO a fun ds => loopO g body ds
section
variable {X : Cx} {F : Fr} {tg iter : Expr} {body : List Stmt} {pos : Pos} {fi : M (List PyData)} {is : List Nat} {g : GM} {fb : SM}
theorem pms_for (hp : PassesOwn (model X.prog X.w) X.A X.env X.xe) (hi : PMI X F tg iter fi) (hg : PMG X F tg is g) (hb : PMSs X F body fb) (hc : X.calm = true := by rfl)
    (hs : ∀ x, foldedSetIterable iter X.env x = pure x := by intro _; rfl) : PMS X F (.For tg iter body [] pos) (forO fi g fb) := by
  refine PS.imp (ps_for hp hc hi hg hb hs) fun D σ H ⟨V, ρ, E, g0⟩ => ⟨V, ρ, E, Goal.ex g0 fun J ds H1 V1 ρ1 st1 it g1 => ?_⟩
  refine ⟨fun i m σ' H' => m = ds.length - i ∧ i ≤ ds.length ∧ ∃ V' ρ', EnvR X.kw F H' V' σ' ρ' ∧ Same V1 V' ∧ GoalS X.kw F V' (loopO g fb (ds.drop i) ρ') D,
    ⟨ds.length, rfl, Nat.zero_le _, V1, ρ1, st1.env, Same.refl _, g1⟩, ?_⟩
  rintro i m σ' H' ⟨rfl, hle, V', ρ', E', sv, gl⟩
  obtain ⟨h1, h2⟩ := it i H' V' sv E'.sub
  by_cases hlt : i < ds.length
  · have hd : ds[i]? = some ds[i] := List.getElem?_eq_getElem hlt
    obtain ⟨go, yl⟩ := h1 _ hd
    rw [List.drop_eq_getElem_cons hlt] at gl
    refine .inr ⟨go, fun σ2 H2 => ∃ V2 ρ2, EnvR X.kw F H2 V2 σ2 ρ2 ∧ Same V1 V2 ∧ GoalS X.kw F V2 (loopO g fb (ds.drop (i + 1)) ρ2) D, fun σ2 H2 h => ⟨ds.length - (i + 1), by omega, rfl, hlt, h⟩, fun x H2 y => ?_⟩
    obtain ⟨V2, x2, r2⟩ := yl x H2 y
    refine ⟨V2, ρ', ds[i], E'.grow x2, r2, ?_⟩
    unfold loopO at gl
    cases eg : g ds[i] ρ' with
    | exc c => rw [eg] at gl; exact gl
    | bad => rw [eg] at gl; exact gl
    | ok ρ3 =>
      rw [eg] at gl
      intro σ3 H3 V3 E3 x3 _ _ _
      refine ⟨V3, ρ3, E3, ?_⟩
      have v3 : Same V' V3 := x2.v.trans x3.v
      have gl : GoalS X.kw F V' (match fb ρ3 with
        | .nx ρ2 => loopO g fb (ds.drop (i + 1)) ρ2
        | .ct ρ2 => loopO g fb (ds.drop (i + 1)) ρ2
        | .bk ρ2 => .nx ρ2
        | .rt x ρ2 => .rt x ρ2
        | .rf x ρ2 => .rf x ρ2
        | .exc c => .exc c
        | .bad => .bad) D := gl
      cases eb : fb ρ3 with
      | nx ρ4 => rw [eb] at gl; exact fun σ4 H4 V4 E4 v4 => ⟨V4, ρ4, E4, (sv.trans v3).trans v4, GoalS.mono (v3.trans v4) gl⟩
      | ct ρ4 => rw [eb] at gl; exact fun σ4 H4 V4 E4 v4 => ⟨V4, ρ4, E4, (sv.trans v3).trans v4, GoalS.mono (v3.trans v4) gl⟩
      | bk ρ4 => rw [eb] at gl; exact fun σ4 H4 V4 E4 v4 => gl σ4 H4 V4 E4 (v3.trans v4)
      | rt x ρ4 => rw [eb] at gl; exact fun v σ4 H4 V4 E4 v4 => gl v σ4 H4 V4 E4 (v3.trans v4)
      | rf x ρ4 => rw [eb] at gl; exact fun v σ4 H4 V4 E4 v4 => gl v σ4 H4 V4 E4 (v3.trans v4)
      | exc c => rw [eb] at gl; exact gl
      | bad => rw [eb] at gl; exact gl
  · have e : i = ds.length := by omega
    subst e
    rw [List.drop_length] at gl
    exact .inl ⟨h2 rfl, gl σ' H' V' E' (Same.refl _)⟩
end
end DL
set_option Elab.async false
set_option linter.all false
set_option maxRecDepth 100000
set_option maxHeartbeats 1000000
namespace DL
open PySem PySem.Spec PyProof.Rows L2
variable [TabCtx]
def start0 (n : Nat) (ds : List PyData) : Rho := ds.map .sh ++ List.replicate (n - ds.length) .no
/-- a def of k parameters, n slots -/
def fnRun (k n : Nat) (f : SM) (ds : List PyData) : R PyData := if ds.length = k then (match f (start0 n ds) with
  | .rt d _ => .ok d
  | .rf d _ => .ok d
  | .nx _ => .ok .none
  | .exc c => .exc c
  | _ => .bad) else .bad
def spF (K : KW) (n : Nat) (m : List PyData → R PyData) : Sp := fun vs H Q E => vs.length = n ∧ ∃ V ds, TabV H V ∧ Same V H ∧ RepL K V vs ds ∧ match m ds with
  | .ok d => ∀ v H' V', Ext H V H' V' → Rep K V' v d → Q v H'
  | .exc c => ∀ H' V', Ext H V H' V' → E (.ref (He.ga K c)) none H'
  | .bad => False
def FnD (P : Program) (w : World) (K : PySem.W.Frag) (mg : Str → Option Value) (base : Heap) (lvl : Nat) (x : Str) (ps : List Str) (m : List PyData → R PyData) : Prop :=
  ∃ fd, FnOk P w K mg base (L2N.CX P w) lvl (He.ga K x) fd ps (spF ⟨K, w⟩ ps.length m) ∧ Binds K fd ps [] ∧ PySem.W.keepIn K (.ref (He.ga K x)) = true ∧ mg x = some (.ref (He.ga K x)) ∧ ∀ ds, m ds ≠ .bad → ds.length = ps.length
theorem FnD.mono {P : Program} {w : World} {K : PySem.W.Frag} {mg : Str → Option Value} {base : Heap} {j k : Nat} {x : Str} {ps : List Str} {m : List PyData → R PyData} (F : FnD P w K mg base j x ps m) (h : j ≤ k) : FnD P w K mg base k x ps m := by
  obtain ⟨fd, h1, h2⟩ := F
  exact ⟨fd, h1.mono h, h2⟩
abbrev mkF (H V : Hp) (E : XK) : Fr := ⟨H, V, none, fun cls _ H' => E cls none H', 0⟩
theorem repL_get {K : KW} {V : Hp} {vs : List L2.V} {ds : List PyData} (r : RepL K V vs ds) {n : Nat} {N : List Str} (hn : N.length = n) (hle : vs.length ≤ n) {H : Hp} {E : XK} (s : Same V H) (ht : TabV H V) : EnvR K (mkF H V E) H V (L2.start N vs) (start0 n ds) := by
  have hl := r.length
  refine ⟨by simp [L2.start, start0, hl, hn], Ext.refl s, fun i d h => ?_, fun i d h => ?_, fun i j a d e h => ?_, (fun a h => by cases h), ht⟩
  · unfold start0 at h
    unfold L2.start
    by_cases hi : i < ds.length
    · rw [List.getElem?_append_left (by simpa using hi), List.getElem?_map] at h
      obtain ⟨d', h1, h2⟩ := Option.map_eq_some_iff.mp h
      cases h2
      obtain ⟨v, h3, h4⟩ := r.get i h1
      exact ⟨v, by rw [List.getElem?_append_left (by rw [List.length_map]; omega), List.getElem?_map, h3]; rfl, h4⟩
    · rw [List.getElem?_append_right (by simpa using hi), List.getElem?_replicate] at h
      split at h <;> cases h
  · unfold start0 at h
    by_cases hi : i < ds.length
    · rw [List.getElem?_append_left (by simpa using hi), List.getElem?_map] at h
      obtain ⟨d', h1, h2⟩ := Option.map_eq_some_iff.mp h
      cases h2
    · rw [List.getElem?_append_right (by simpa using hi), List.getElem?_replicate] at h
      split at h <;> cases h
  · unfold start0 at h
    by_cases hi : i < ds.length
    · rw [List.getElem?_append_left (by simpa using hi), List.getElem?_map] at h
      obtain ⟨d', h1, h2⟩ := Option.map_eq_some_iff.mp h
      cases h2
    · rw [List.getElem?_append_right (by simpa using hi), List.getElem?_replicate] at h
      split at h <;> cases h
section
variable {P : Program} {w : World} {K : PySem.W.Frag} {mg : Str → Option Value} {base : Heap} {x : Str} {params : Arguments} {body : List Stmt} {scope : Scope} {fd : FuncData}
abbrev cxF (P : Program) (w : World) (K : PySem.W.Frag) (mg : Str → Option Value) (base : Heap) (N : List Str) (x : Str) (scope : Scope) (cdv : Value) (A : Around) (outer : List Env) (s : Shared) (H : Hp) (E : XK) : Cx := cxOf (L2N.CX P w) P w K mg base N x scope (He.ga K x) cdv A outer s H E
theorem tk_fn {N : List Str} {cdv : Value} {A : Around} {outer : List Env} {s : Shared} {H : Hp} {E : XK} {H0 V0 : Hp} {l : Option Addr} {n0 : Nat} : Tk (cxF P w K mg base N x scope cdv A outer s H E) ⟨H0, V0, l, fun cls _ H' => E cls none H', n0⟩ := by
  have t : L2N.Takes (cxF P w K mg base N x scope cdv A outer s H E) (fun cls d _ H' => E cls d H') := L2N.takes_of rfl rfl rfl rfl
  refine t.imp fun c d σ H' ⟨h1, h2⟩ => ?_
  rw [h1]
  exact h2
theorem fn_mk {N ps : List Str} {k : Nat} {f : SM} (D : FunD K x x params body scope [] [] (He.ga K x) fd) (hx : mg x = some (.ref (He.ga K x))) (S : FnScope N ps scope)
    (hbd : ∀ (kV doc pm : Value) (an : Option Addr) (cdv ct : Value) (us : List Value), us.length = ps.length → bindArgs (PySem.W.fnOf x x params body scope .none kV doc pm an cdv ct) ⟨us, []⟩ = pure (ps.zip us))
    (hps : ps.length ≤ N.length)
    (hb : ∀ (cdv : Value) (A : Around) (outer : List Env) (s : Shared) (H V : Hp) (E : XK), Room k (A.deeper (envOfC x scope s.heap.objs.size (He.ga K x) cdv)) → PMSs (cxF P w K mg base N x scope cdv A outer s H E) (mkF H V E) body f) :
    FnD P w K mg base (k + 1) x ps (fnRun ps.length N.length f) := by
  refine ⟨fd, D.ok (CX := L2N.CX P w) S (fun vs H Q E h => h.1) fun cdv A outer s H vs Q E hr h => ?_, D.bindsN hbd, D.kp, hx, fun ds h => ?_⟩
  · obtain ⟨hl, V, ds, ht, sv, r, g⟩ := h
    refine ⟨_, hb cdv A outer s H V E hr, V, start0 N.length ds, repL_get r rfl (by omega) sv ht, ?_⟩
    unfold fnRun at g
    rw [if_pos (by rw [← r.length]; exact hl)] at g
    show GoalS ⟨K, w⟩ (mkF H V E) V (f (start0 N.length ds)) _
    cases e : f (start0 N.length ds) with
    | rt d ρ' => rw [e] at g; exact fun v σ' H' V' E' _ r' => g v H' V' E'.ext r'
    | rf d ρ' => rw [e] at g; exact fun v σ' H' V' E' _ r' _ => g v H' V' E'.ext r'
    | nx ρ' => rw [e] at g; exact fun σ' H' V' E' _ => g .non H' V' E'.ext .non
    | exc c => rw [e] at g; exact fun σ' H' V' x => g H' V' x
    | bk ρ' => rw [e] at g; exact False.elim g
    | ct ρ' => rw [e] at g; exact False.elim g
    | bad => rw [e] at g; exact False.elim g
  · unfold fnRun at h
    by_cases hl : ds.length = ps.length
    · exact hl
    · rw [if_neg hl] at h; exact absurd rfl h
end
section
variable {X : Cx} {F : Fr} {e : Expr} {es : List Expr} {fs : M (List PyData)} {pos p : Pos}
/-- f(..) -/
theorem pm_call {lvl : Nat} {x : Str} {ps : List Str} {m : List PyData → R PyData} (G : FnD X.prog X.w X.K X.mg X.base lvl x ps m) (hr : Room lvl X.A) (tk : Tk X F) (ha : PMA X F (e :: es) fs) (hg : Gl X x := by rfl)
    (hdb : (x == ("__debug__" : Str)) = false := by decide) (he : starEach (e :: es) X.env = (false, eval e X.env) :: starEach es X.env := by rfl) (hpl : (backTo pos (starEach es X.env)).any (·.1) = false := by rfl) : PM X F (.Call (.Name x p) (e :: es) [] pos) (callM m fs) := by
  obtain ⟨fd, G1, G2, G3, G4, G5⟩ := G
  refine PE.imp (pe_callS G1 hr hg G4 G3 G2 (fun σ => L2N.passAt tk σ) ha hdb he hpl) fun σ H Q ⟨V, ρ, E, g0⟩ => ⟨V, ρ, E, Goal.bind g0 fun vs ds H1 V1 ρ1 st1 r1 g1 => ?_⟩
  unfold M.lift at g1
  cases em : m ds with
  | ok d =>
    rw [em] at g1
    refine ⟨by rw [r1.length]; exact G5 ds (by rw [em]; exact fun z => nomatch z), V1, ds, st1.env.tabs, st1.env.sub, r1, ?_⟩
    rw [em]
    exact fun v H' V' x r => g1 v H' V' (st1.env.step x) r
  | exc c =>
    rw [em] at g1
    refine ⟨by rw [r1.length]; exact G5 ds (by rw [em]; exact fun z => nomatch z), V1, ds, st1.env.tabs, st1.env.sub, r1, ?_⟩
    rw [em]
    exact fun H' V' x => ⟨rfl, g1 H' V' (st1.env.ext.trans x)⟩
  | bad => rw [em] at g1; exact False.elim g1
end
def Fr.nox (F : Fr) : Fr := { F with W := fun _ _ _ => False }
theorem EnvR.nox {K : KW} {F : Fr} {H V : Hp} {σ : St} {ρ : Rho} (E : EnvR K F H V σ ρ) : EnvR K F.nox H V σ ρ := ⟨E.len, E.ext, E.sh, E.ow, E.dis, E.lent, E.tab⟩
theorem EnvR.unnox {K : KW} {F : Fr} {H V : Hp} {σ : St} {ρ : Rho} (E : EnvR K F.nox H V σ ρ) : EnvR K F H V σ ρ := ⟨E.len, E.ext, E.sh, E.ow, E.dis, E.lent, E.tab⟩
theorem Stp.unnox {K : KW} {F : Fr} {σ : St} {ρ ρ' : Rho} {H V H' V' : Hp} (s : Stp K F.nox σ ρ ρ' H V H' V') : Stp K F σ ρ ρ' H V H' V' := ⟨s.env.unnox, s.v, s.keep, s.own, s.shs, s.f, s.th⟩
theorem tk_nox {X : Cx} {F : Fr} : Tk X F.nox := L2N.Takes.imp takesN0 fun _ _ _ _ h => h.2
def wipeR (ρ : Rho) : List Nat → Rho
  | [] => ρ
  | v :: vs => (wipeR ρ vs).set v .no
def isOw : Option Sl → Bool
  | some (.ow _) => true
  | _ => false
/-- the slots vs of ρ, the others of ρ' -/
def resR (ρ ρ' : Rho) : List Nat → Rho
  | [] => ρ'
  | v :: vs => (resR ρ ρ' vs).set v (ρ.getD v .no)
def lcLoop (vs : List Nat) (g : GM) (t : M Bool) (e : M PyData) : List PyData → Rho → List PyData → R (List PyData × Rho)
  | [], ρ, acc => .ok (acc, ρ)
  | d :: ds, ρ, acc => match g d (wipeR ρ vs) with
    | .ok ρ1 => (match t ρ1 with
      | .ok (true, ρ2) => (match e ρ2 with
        | .ok (y, ρ3) => if acc.length < LIM then lcLoop vs g t e ds ρ3 (acc ++ [y]) else .bad
        | _ => .bad)
      | .ok (false, ρ2) => lcLoop vs g t e ds ρ2 acc
      | _ => .bad)
    | _ => .bad
def lcM (vs : List Nat) (a : M (List PyData)) (g : GM) (t : M Bool) (e : M PyData) : M PyData := M.bind a fun ds ρ => if vs.any (fun i => isOw ρ[i]?) = true then .bad else (match lcLoop vs g t e ds ρ [] with
  | .ok (acc, ρ') => .ok (.list acc, resR ρ ρ' vs)
  | _ => .bad)
theorem wipeR_len (ρ : Rho) : ∀ vs, (wipeR ρ vs).length = ρ.length
  | [] => rfl
  | v :: vs => by unfold wipeR; rw [List.length_set, wipeR_len ρ vs]
theorem wipeR_some {ρ : Rho} {i : Nat} {s : Sl} : s ≠ .no → ∀ {vs : List Nat}, (wipeR ρ vs)[i]? = some s → ρ[i]? = some s ∧ i ∉ vs
  | hs, [], h => ⟨h, by simp⟩
  | hs, v :: vs, h => by
    unfold wipeR at h
    by_cases hi : v = i
    · subst hi
      by_cases hv : v < (wipeR ρ vs).length
      · rw [List.getElem?_set_self hv] at h; cases h; exact absurd rfl hs
      · rw [List.getElem?_eq_none (by simpa using hv)] at h; cases h
    · rw [List.getElem?_set_ne hi] at h
      obtain ⟨h1, h2⟩ := wipeR_some hs h
      exact ⟨h1, by simp only [List.mem_cons, not_or]; exact ⟨fun e => hi e.symm, h2⟩⟩
theorem wipeR_out {ρ : Rho} {i : Nat} : ∀ {vs : List Nat}, i ∉ vs → (wipeR ρ vs)[i]? = ρ[i]?
  | [], _ => rfl
  | v :: vs, h => by
    unfold wipeR
    rw [List.getElem?_set_ne (fun e => h (by rw [e]; exact List.mem_cons_self)), wipeR_out fun z => h (List.mem_cons_of_mem _ z)]
theorem wipe_outL {σ : St} {i : Nat} : ∀ {vs : List Nat}, i ∉ vs → (wipe σ vs)[i]? = σ[i]?
  | [], _ => rfl
  | v :: vs, h => by
    unfold wipe
    rw [List.getElem?_set_ne (fun e => h (by rw [e]; exact List.mem_cons_self)), wipe_outL fun z => h (List.mem_cons_of_mem _ z)]
theorem wipe_in {σ : St} {i : Nat} : ∀ {vs : List Nat}, i ∈ vs → i < σ.length → (wipe σ vs)[i]? = some none
  | v :: vs, h, hl => by
    unfold wipe
    by_cases e : v = i
    · subst e; exact List.getElem?_set_self (by rw [wipe_length]; exact hl)
    · rw [List.getElem?_set_ne e]
      rcases List.mem_cons.mp h with z | z
      · exact absurd z.symm e
      · exact wipe_in z hl
theorem wipe_wipe (σ : St) (vs : List Nat) : wipe (wipe σ vs) vs = wipe σ vs := by
  apply List.ext_getElem?
  intro i
  by_cases h : i ∈ vs
  · by_cases hl : i < σ.length
    · rw [wipe_in h (by rw [wipe_length]; exact hl), wipe_in h hl]
    · rw [List.getElem?_eq_none (by simp only [wipe_length]; omega), List.getElem?_eq_none (by simp only [wipe_length]; omega)]
  · rw [wipe_outL h]
theorem resR_len (ρ ρ' : Rho) : ∀ vs, (resR ρ ρ' vs).length = ρ'.length
  | [] => rfl
  | v :: vs => by unfold resR; rw [List.length_set, resR_len ρ ρ' vs]
theorem resR_out {ρ ρ' : Rho} {i : Nat} : ∀ {vs : List Nat}, i ∉ vs → (resR ρ ρ' vs)[i]? = ρ'[i]?
  | [], _ => rfl
  | v :: vs, h => by
    unfold resR
    rw [List.getElem?_set_ne (fun e => h (by rw [e]; exact List.mem_cons_self)), resR_out fun z => h (List.mem_cons_of_mem _ z)]
theorem resR_in {ρ ρ' : Rho} {i : Nat} : ∀ {vs : List Nat}, i ∈ vs → i < ρ'.length → (resR ρ ρ' vs)[i]? = some (ρ.getD i .no)
  | v :: vs, h, hl => by
    unfold resR
    by_cases e : v = i
    · subst e; exact List.getElem?_set_self (by rw [resR_len]; exact hl)
    · rw [List.getElem?_set_ne e]
      rcases List.mem_cons.mp h with z | z
      · exact absurd z.symm e
      · exact resR_in z hl
section
variable {K : KW} {F : Fr} {σ : St} {ρ ρ1 : Rho} {H V H1 V1 : Hp}
theorem EnvR.wipe (E : EnvR K F H V σ ρ) {vs : List Nat} (hl : F.ls ∉ vs ∨ F.lent = none) : EnvR K F H V (wipe σ vs) (wipeR ρ vs) := by
  refine ⟨by rw [wipe_length, wipeR_len, E.len], E.ext, fun i d h => ?_, fun i d h => ?_, fun i j a d e h1 h2 h3 h4 => ?_, fun a ha => ?_, E.tab⟩
  · obtain ⟨h1, h2⟩ := wipeR_some (by intro z; cases z) h
    rw [wipe_outL h2]
    exact E.sh i d h1
  · obtain ⟨h1, h2⟩ := wipeR_some (by intro z; cases z) h
    rw [wipe_outL h2]
    exact E.ow i d h1
  · obtain ⟨h1, n1⟩ := wipeR_some (by intro z; cases z) h1
    obtain ⟨h2, n2⟩ := wipeR_some (by intro z; cases z) h2
    rw [wipe_outL n1] at h3
    rw [wipe_outL n2] at h4
    exact E.dis i j a d e h1 h2 h3 h4
  · rcases hl with hl | hl
    · rw [wipe_outL hl]; exact E.lent a ha
    · rw [hl] at ha; cases ha
theorem isOwn_wipe {vs : List Nat} {b : Addr} (h : IsOwn (L2.wipe σ vs) (wipeR ρ vs) b) : IsOwn σ ρ b := by
  obtain ⟨i, d, h1, h2⟩ := h
  obtain ⟨h1, n1⟩ := wipeR_some (by intro z; cases z) h1
  rw [wipe_outL n1] at h2
  exact ⟨i, d, h1, h2⟩
/-- a cell beside: not seen, of no slot -/
theorem EnvR.beside (E : EnvR K F H V σ ρ) {p : Addr} {o : HO} (hp : ∀ x, H p = some x → Plain x) (h1 : V p = none) (h2 : F.H0 p = none) (h3 : ¬ IsOwn σ ρ p) : EnvR K F (upd H p o) V σ ρ := by
  refine ⟨E.len, ⟨fun b x e n => ?_, E.ext.v, fun b x e => ?_, E.ext.f, fun b h => ?_, fun t => tabs_upd hp (E.ext.t t)⟩, E.sh, fun i d h => ?_, E.dis, E.lent, E.tab⟩
  · rw [upd_ne (fun z => by rw [z, h2] at e; cases e)]; exact E.ext.h b x e n
  · rw [upd_ne (fun z => by rw [z, h1] at e; cases e)]; exact E.ext.s b x e
  · rw [upd_ne (fun z => h (by rw [z]; exact h2))]; exact E.ext.th b h
  · obtain ⟨a, q1, q2, q3, q4⟩ := E.ow i d h
    refine ⟨a, q1, q2, q3, q4.mono (Same.refl _) fun o e _ => ?_⟩
    rw [upd_ne (fun z => h3 ⟨i, d, h, by rw [← z]; exact q1⟩)]
    exact e
/-- .. that comes to be seen -/
theorem EnvR.show (E : EnvR K F H V σ ρ) {p : Addr} {o : HO} (h0 : H p = some o) (h1 : V p = none) (h2 : F.H0 p = none) (h3 : ¬ IsOwn σ ρ p) : EnvR K F H (upd V p o) σ ρ := by
  have sv : Same V (upd V p o) := same_new h1
  refine ⟨E.len, ⟨E.ext.h, E.ext.v.trans sv, fun b x e => ?_, fun b q1 q2 => ?_, E.ext.th, E.ext.t⟩, fun i d h => ?_, fun i d h => ?_, E.dis, E.lent, E.tab⟩
  · by_cases hb : b = p
    · subst hb; rw [upd_same] at e; cases e; exact h0
    · rw [upd_ne hb] at e; exact E.ext.s b x e
  · rw [upd_ne (fun z => q2 (by rw [z]; exact h2))]; exact E.ext.f b q1 q2
  · obtain ⟨v, q1, q2⟩ := E.sh i d h
    exact ⟨v, q1, q2.mono sv⟩
  · obtain ⟨a, q1, q2, q3, q4⟩ := E.ow i d h
    exact ⟨a, q1, by rw [upd_ne (fun z => h3 ⟨i, d, h, by rw [← z]; exact q1⟩)]; exact q2, q3, q4.mono sv fun _ e _ => e⟩
theorem EnvR.restore (E : EnvR K F H V σ ρ) (E1 : EnvR K F H1 V1 (L2.wipe σ vs) (wipeR ρ1 vs)) (v : Same V V1) (hv : ∀ i ∈ vs, isOw ρ[i]? = false) : EnvR K F H1 V1 σ (resR ρ ρ1 vs) := by
  have l1 : σ.length = ρ1.length := by
    have := E1.len
    rw [wipe_length, wipeR_len] at this
    exact this
  refine ⟨by rw [resR_len]; exact l1, E1.ext, fun i d h => ?_, fun i d h => ?_, fun i j a d e h1 h2 h3 h4 => ?_, E.lent, E.tab⟩
  · by_cases hi : i ∈ vs
    · by_cases hl : i < ρ1.length
      · rw [resR_in hi hl] at h
        have h' : ρ.getD i .no = .sh d := Option.some.inj h
        rw [List.getD_eq_getElem?_getD] at h'
        cases q : ρ[i]? with
        | none => rw [q] at h'; cases h'
        | some s =>
          rw [q] at h'
          have h' : s = .sh d := h'
          subst h'
          obtain ⟨x, q1, q2⟩ := E.sh i d q
          exact ⟨x, q1, q2.mono v⟩
      · rw [List.getElem?_eq_none (by rw [resR_len]; omega)] at h; cases h
    · rw [resR_out hi] at h
      obtain ⟨x, q1, q2⟩ := E1.sh i d (by rw [wipeR_out hi]; exact h)
      rw [wipe_outL hi] at q1
      exact ⟨x, q1, q2⟩
  · have hi : i ∉ vs := fun hi => by
      by_cases hl : i < ρ1.length
      · rw [resR_in hi hl] at h
        have h' : ρ.getD i .no = .ow d := Option.some.inj h
        rw [List.getD_eq_getElem?_getD] at h'
        have q := hv i hi
        cases q' : ρ[i]? with
        | none => rw [q'] at h'; cases h'
        | some s =>
          rw [q'] at h' q
          have h' : s = .ow d := h'
          subst h'
          cases q
      · rw [List.getElem?_eq_none (by rw [resR_len]; omega)] at h; cases h
    rw [resR_out hi] at h
    obtain ⟨x, q1, q2⟩ := E1.ow i d (by rw [wipeR_out hi]; exact h)
    rw [wipe_outL hi] at q1
    exact ⟨x, q1, q2⟩
  · have no : ∀ {i : Nat} {d : PyData}, (resR ρ ρ1 vs)[i]? = some (.ow d) → i ∉ vs := fun {i d} h hi => by
      by_cases hl : i < ρ1.length
      · rw [resR_in hi hl] at h
        have h' : ρ.getD i .no = .ow d := Option.some.inj h
        rw [List.getD_eq_getElem?_getD] at h'
        have q := hv i hi
        cases q' : ρ[i]? with
        | none => rw [q'] at h'; cases h'
        | some s =>
          rw [q'] at h' q
          have h' : s = .ow d := h'
          subst h'
          cases q
      · rw [List.getElem?_eq_none (by rw [resR_len]; omega)] at h; cases h
    have n1 := no h1
    have n2 := no h2
    rw [resR_out n1] at h1
    rw [resR_out n2] at h2
    exact E1.dis i j a d e (by rw [wipeR_out n1]; exact h1) (by rw [wipeR_out n2]; exact h2) (by rw [wipe_outL n1]; exact h3) (by rw [wipe_outL n2]; exact h4)
end
section
variable {X : Cx} {F : Fr}
def PMTs (X : Cx) (F : Fr) (ifs : List Expr) (f : M Bool) : Prop := PTs X ifs (tMT X.kw F f)
def yesT : M Bool := M.pure true
theorem PTs.imp {X : Cx} {e : List Expr} {t u : TT} (h : PTs X e t) (i : ∀ σ H Q, u σ H Q → t σ H Q) : PTs X e u := by
  obtain ⟨r⟩ := h
  exact ⟨fun pins s σ H Q I q => r pins s σ H Q I (i σ H Q q)⟩
theorem pmts_nil : PMTs X F [] yesT := PTs.imp pts_nil fun σ H Q ⟨V, ρ, E, g⟩ => Goal.pure0 E g rfl
theorem pmts_one {c : Expr} {ft : M Bool} (h : PMT X F c ft) : PMTs X F [c] ft := pts_one h
/-- what holds of a comprehension's new list at D, its values ys, data acc, within the block: slots σ', data ρ' -/
structure LI (K : KW) (F : Fr) (vs : List Nat) (σ : St) (ρ1 : Rho) (H1 V1 : Hp) (D : Addr) (σ' : St) (ρ' : Rho) (H' V' : Hp) (ys : List L2.V) (acc : List PyData) : Prop where
  env : EnvR K F H' V' σ' ρ'
  sv : Same V1 V'
  hD : H' D = some (.lst ys)
  rl : RepL K V' ys acc
  vD : V' D = none
  ho : ∀ b, IsOwn σ' ρ' b → IsOwn σ ρ1 b
  kp : ∀ b o, H1 b = some o → nT o → ¬ IsOwn σ ρ1 b → H' b = some o
  sh : ∀ (j : Nat) (d : PyData), j ∉ vs → ρ'[j]? = some (.sh d) → ρ1[j]? = some (.sh d)
  fr : ∀ b, V1 b = none → H1 b ≠ none → V' b = none
  th : ∀ b, H1 b ≠ none → H' b ≠ none
  nD : ¬ IsOwn σ ρ1 D
  h0 : F.H0 D = none
  h1 : H1 D = none
section
variable {K : KW} {F : Fr} {vs : List Nat} {σ : St} {ρ1 : Rho} {H1 V1 : Hp} {D : Addr} {σ' σ2 : St} {ρ' ρ2 : Rho} {H' V' H2 V2 : Hp} {ys : List L2.V} {acc : List PyData}
theorem LI.start (E : EnvR K F H1 V1 σ ρ1) (hD : H1 D = none) : LI K F vs σ ρ1 H1 V1 D σ ρ1 (upd H1 D (.lst [])) V1 [] [] where
  env := E.grow (Ext.hid E.sub hD)
  sv := Same.refl _
  hD := upd_same
  rl := .nil
  vD := E.sub.free hD
  ho := fun _ h => h
  kp := fun b o q _ _ => same_new hD b o q
  sh := fun _ _ _ q => q
  fr := fun _ q _ => q
  th := Same.th (same_new hD)
  nD := fun h => by
    obtain ⟨i, d, h1, h2⟩ := h
    obtain ⟨a, q1, q2, q3, q4⟩ := E.ow i d h1
    have e : a = D := by rw [h2] at q1; exact (L2.V.ref.inj (Option.some.inj (Option.some.inj q1))).symm
    obtain ⟨o, q5, _⟩ := q4.there
    rw [e, hD] at q5
    cases q5
  h0 := E.ext.free hD
  h1 := hD
theorem LI.someD (I : LI K F vs σ ρ1 H1 V1 D σ' ρ' H' V' ys acc) : H' D ≠ none := by rw [I.hD]; exact fun z => nomatch z
theorem LI.wipe (I : LI K F vs σ ρ1 H1 V1 D σ' ρ' H' V' ys acc) (ws : List Nat) (hl : F.ls ∉ ws ∨ F.lent = none) : LI K F vs σ ρ1 H1 V1 D (L2.wipe σ' ws) (wipeR ρ' ws) H' V' ys acc :=
  { I with env := I.env.wipe hl, ho := fun b h => I.ho b (isOwn_wipe h), sh := fun j d hj q => I.sh j d hj (wipeR_some (by intro z; cases z) q).1 }
theorem LI.ext (I : LI K F vs σ ρ1 H1 V1 D σ' ρ' H' V' ys acc) (x : Ext H' V' H2 V2) : LI K F vs σ ρ1 H1 V1 D σ' ρ' H2 V2 ys acc :=
  { I with env := I.env.grow x, sv := I.sv.trans x.v, hD := x.h _ _ I.hD plain_lst.t, rl := I.rl.mono x.v, vD := x.f D I.vD I.someD, kp := fun b o q n m => x.h _ _ (I.kp b o q n m) n, fr := fun b h1 h2 => x.f b (I.fr b h1 h2) (I.th b h2), th := fun b h => x.th b (I.th b h) }
theorem LI.tgt {is : List Nat} (I : LI K F vs σ ρ1 H1 V1 D σ' ρ' H' V' ys acc) (E : EnvR K F H2 V2 σ2 ρ2) (x : Ext H' V' H2 V2) (o : ∀ b, IsOwn σ2 ρ2 b → IsOwn σ' ρ' b) (p : ∀ (i : Nat) (d : PyData), i ∉ is → ρ2[i]? = some (.sh d) → ρ'[i]? = some (.sh d)) (his : ∀ i ∈ is, i ∈ vs) :
    LI K F vs σ ρ1 H1 V1 D σ2 ρ2 H2 V2 ys acc :=
  { I.ext x with env := E, ho := fun b h => I.ho b (o b h), sh := fun j d hj q => I.sh j d hj (p j d (fun z => hj (his j z)) q) }
theorem LI.stp (I : LI K F vs σ ρ1 H1 V1 D σ' ρ' H' V' ys acc) (s : Stp K F σ' ρ' ρ2 H' V' H2 V2) : LI K F vs σ ρ1 H1 V1 D σ' ρ2 H2 V2 ys acc where
  env := s.env
  sv := I.sv.trans s.v
  hD := s.keep _ _ I.hD plain_lst.t fun h => I.nD (I.ho D h)
  rl := I.rl.mono s.v
  vD := s.f D I.vD I.someD
  ho := fun b h => I.ho b (s.own b h)
  kp := fun b o q n m => s.keep b o (I.kp b o q n m) n fun h => m (I.ho b h)
  sh := fun j d hj q => I.sh j d hj (s.shs j d q)
  fr := fun b h1 h2 => s.f b (I.fr b h1 h2) (I.th b h2)
  th := fun b h => s.th b (I.th b h)
  nD := I.nD
  h0 := I.h0
  h1 := I.h1
theorem LI.app {y : L2.V} {d : PyData} (I : LI K F vs σ ρ1 H1 V1 D σ' ρ' H' V' ys acc) (r : Rep K V' y d) : LI K F vs σ ρ1 H1 V1 D σ' ρ' (upd H' D (.lst (ys ++ [y]))) V' (ys ++ [y]) (acc ++ [d]) := by
  refine ⟨I.env.beside (fun x e => by rw [I.hD] at e; cases e; exact plain_lst) I.vD I.h0 fun h => I.nD (I.ho D h), I.sv, upd_same, I.rl.append (.cons r .nil), I.vD, I.ho, fun b o q n m => ?_, I.sh, I.fr, fun b h => ?_, I.nD, I.h0, I.h1⟩
  · rw [upd_ne (fun z => by rw [z, I.h1] at q; cases q)]
    exact I.kp b o q n m
  · rw [upd_ne (fun z => h (by rw [z]; exact I.h1))]
    exact I.th b h
theorem resR_ow {ρ1 ρ' : Rho} {vs : List Nat} (hv : ∀ i ∈ vs, isOw ρ1[i]? = false) {j : Nat} {d : PyData} (h : (resR ρ1 ρ' vs)[j]? = some (.ow d)) : j ∉ vs := fun hj => by
  by_cases hl : j < ρ'.length
  · rw [resR_in hj hl] at h
    have h' : ρ1.getD j .no = .ow d := Option.some.inj h
    rw [List.getD_eq_getElem?_getD] at h'
    have q := hv j hj
    cases q' : ρ1[j]? with
    | none => rw [q'] at h'; cases h'
    | some s =>
      rw [q'] at h' q
      have h' : s = .ow d := h'
      subst h'
      cases q
  · rw [List.getElem?_eq_none (by rw [resR_len]; omega)] at h; cases h
/-- the list is done -/
theorem LI.done (E : EnvR K F H1 V1 σ ρ1) (I : LI K F vs σ ρ1 H1 V1 D (L2.wipe σ vs) (wipeR ρ' vs) H' V' ys acc) (hv : ∀ i ∈ vs, isOw ρ1[i]? = false) :
    Stp K F σ ρ1 (resR ρ1 ρ' vs) H1 V1 H' (upd V' D (.lst ys)) ∧ Rep K (upd V' D (.lst ys)) (.ref D) (.list acc) := by
  have nD : ¬ IsOwn (L2.wipe σ vs) (wipeR ρ' vs) D := fun h => I.nD (I.ho D h)
  have Es : EnvR K F H' (upd V' D (.lst ys)) (L2.wipe σ vs) (wipeR ρ' vs) := I.env.show I.hD I.vD I.h0 nD
  have svD : Same V' (upd V' D (.lst ys)) := same_new I.vD
  refine ⟨⟨E.restore Es (I.sv.trans svD) hv, I.sv.trans svD, I.kp, fun b h => ?_, fun j d q => ?_, fun b h1 h2 => ?_, I.th⟩, .lst upd_same (I.rl.mono svD)⟩
  · obtain ⟨j, d, h1, h2⟩ := h
    have nj := resR_ow hv h1
    rw [resR_out nj] at h1
    exact I.ho b ⟨j, d, by rw [wipeR_out nj]; exact h1, by rw [wipe_outL nj]; exact h2⟩
  · by_cases hj : j ∈ vs
    · by_cases hl : j < ρ'.length
      · rw [resR_in hj hl] at q
        have h' : ρ1.getD j .no = .sh d := Option.some.inj q
        rw [List.getD_eq_getElem?_getD] at h'
        cases q' : ρ1[j]? with
        | none => rw [q'] at h'; cases h'
        | some s =>
          rw [q'] at h'
          have h' : s = .sh d := h'
          rw [h']
      · rw [List.getElem?_eq_none (by rw [resR_len]; omega)] at q; cases q
    · rw [resR_out hj] at q
      exact I.sh j d hj (by rw [wipeR_out hj]; exact q)
  · rw [upd_ne (fun z => h2 (by rw [z]; exact I.h1))]
    exact I.fr b h1 h2
end
theorem lcM_run {vs : List Nat} {l : R (List PyData × Rho)} {K : KW} {σ : St} {ρ1 : Rho} {H1 V1 : Hp} {Q : VK} (g1 : Goal K F σ ρ1 H1 V1 (Rep K) (if (vs.any fun i => isOw ρ1[i]?) = true then .bad else (match l with
      | .ok (acc, ρ') => .ok (.list acc, resR ρ1 ρ' vs)
      | _ => .bad)) Q) : ∃ acc ρ', l = .ok (acc, ρ') ∧ (∀ i ∈ vs, isOw ρ1[i]? = false) ∧ ∀ b H' V', Stp K F σ ρ1 (resR ρ1 ρ' vs) H1 V1 H' V' → Rep K V' b (.list acc) → Q b H' := by
  by_cases hany : (vs.any fun i => isOw ρ1[i]?) = true
  · rw [if_pos hany] at g1
    exact False.elim g1
  · rw [if_neg hany] at g1
    have hv : ∀ i ∈ vs, isOw ρ1[i]? = false := fun i hi => by
      cases q : isOw ρ1[i]? with
      | false => rfl
      | true => exact absurd (List.any_eq_true.mpr ⟨i, hi, q⟩) hany
    cases l with
    | exc c => exact False.elim g1
    | bad => exact False.elim g1
    | ok pr =>
      obtain ⟨acc, ρ'⟩ := pr
      exact ⟨acc, ρ', rfl, hv, g1⟩
theorem lc_of {K : KW} {vs is : List Nat} {fi : M (List PyData)} {g : GM} {ft : M Bool} {fe : M PyData} (his : ∀ i ∈ is, i ∈ vs) (hl : F.ls ∉ vs ∨ F.lent = none) {σ : St} {H : Hp} {Q : VK} (h : tM K F (lcM vs fi g ft fe) σ H Q) :
    tLc (tI K F fi) (tGM K F.nox is g) (tMT K F.nox ft) (tM K F.nox fe) vs σ H Q := by
  obtain ⟨V, ρ, E, g0⟩ := h
  refine ⟨V, ρ, E, Goal.bind g0 fun J ds H1 V1 ρ1 st1 it g1 => fun D hD => ?_⟩
  obtain ⟨acc, ρ', hL, hv, q⟩ := lcM_run g1
  refine ⟨fun i m H' => m = ds.length - i ∧ i ≤ ds.length ∧ ∃ V' ρc ys accd, LI K F vs σ ρ1 H1 V1 D (L2.wipe σ vs) (wipeR ρc vs) H' V' ys accd ∧ lcLoop vs g ft fe (ds.drop i) ρc accd = .ok (acc, ρ'),
    ⟨ds.length, rfl, Nat.zero_le _, V1, ρ1, [], [], (LI.start st1.env hD).wipe vs hl, hL⟩, ?_⟩
  rintro i m H' ⟨rfl, hle, V', ρc, ys, accd, I, hE⟩
  obtain ⟨i1, i2⟩ := it i H' V' I.sv I.env.sub
  by_cases hlt : i < ds.length
  · obtain ⟨go, yl⟩ := i1 _ (List.getElem?_eq_getElem hlt)
    rw [List.drop_eq_getElem_cons hlt] at hE
    refine .inr ⟨go, fun H2 => ∃ V' ρc ys accd, LI K F vs σ ρ1 H1 V1 D (L2.wipe σ vs) (wipeR ρc vs) H2 V' ys accd ∧ lcLoop vs g ft fe (ds.drop (i + 1)) ρc accd = .ok (acc, ρ'), fun H2 h => ⟨ds.length - (i + 1), by omega, rfl, hlt, h⟩, fun x H2 y => ?_⟩
    obtain ⟨V2, x2, r2⟩ := yl x H2 y
    have I2 := I.ext x2
    refine ⟨V2, wipeR ρc vs, ds[i], I2.env.nox, r2, ?_⟩
    unfold lcLoop at hE
    cases eg : g ds[i] (wipeR ρc vs) with
    | exc c => rw [eg] at hE; cases hE
    | bad => rw [eg] at hE; cases hE
    | ok ρ3 =>
      rw [eg] at hE
      intro σ3 H3 V3 E3 x3 w3 o3 p3
      have ew : L2.wipe σ3 vs = L2.wipe σ vs := (w3 vs his).trans (wipe_wipe σ vs)
      have I3 := I2.tgt E3.unnox x3 o3 p3 his
      refine ⟨ew, V3, ρ3, E3, ?_⟩
      have hE : (match ft ρ3 with
        | .ok (true, ρ2) => (match fe ρ2 with
          | .ok (y, ρ3) => if accd.length < LIM then lcLoop vs g ft fe (ds.drop (i + 1)) ρ3 (accd ++ [y]) else .bad
          | _ => .bad)
        | .ok (false, ρ2) => lcLoop vs g ft fe (ds.drop (i + 1)) ρ2 accd
        | _ => .bad) = .ok (acc, ρ') := hE
      show Goal K F.nox σ3 ρ3 H3 V3 (fun _ (b : Bool) a => b = a) (ft ρ3) _
      cases et : ft ρ3 with
      | exc c => rw [et] at hE; cases hE
      | bad => rw [et] at hE; cases hE
      | ok pt =>
        obtain ⟨bt, ρ4⟩ := pt
        rw [et] at hE
        intro b' H4 V4 st4 eb
        subst eb
        have I4 := I3.stp st4.unnox
        cases b' with
        | false =>
          show if false = true then _ else _
          rw [if_neg Bool.false_ne_true]
          have I5 := I4.wipe vs hl
          rw [ew] at I5
          exact ⟨V4, ρ4, ys, accd, I5, hE⟩
        | true =>
          rw [if_pos rfl]
          refine ⟨V4, ρ4, st4.env, ?_⟩
          have hE : (match fe ρ4 with
            | .ok (y, ρ3) => if accd.length < LIM then lcLoop vs g ft fe (ds.drop (i + 1)) ρ3 (accd ++ [y]) else .bad
            | _ => .bad) = .ok (acc, ρ') := hE
          cases ee : fe ρ4 with
          | exc c => rw [ee] at hE; cases hE
          | bad => rw [ee] at hE; cases hE
          | ok pe =>
            obtain ⟨yd, ρ5⟩ := pe
            rw [ee] at hE
            have hE : (if accd.length < LIM then lcLoop vs g ft fe (ds.drop (i + 1)) ρ5 (accd ++ [yd]) else .bad) = .ok (acc, ρ') := hE
            intro yv H5 V5 st5 ry
            by_cases hlm : accd.length < LIM
            · rw [if_pos hlm] at hE
              have I5 := I4.stp st5.unnox
              have I6 := (I5.app ry).wipe vs hl
              rw [ew] at I6
              exact ⟨ys, I5.hD, by rw [I5.rl.length]; exact Nat.lt_trans hlm lim_lt, V5, ρ5, _, _, I6, hE⟩
            · rw [if_neg hlm] at hE; cases hE
  · have ei : i = ds.length := by omega
    subst ei
    rw [List.drop_length] at hE
    have hE : R.ok (accd, ρc) = R.ok (acc, ρ') := hE
    injection hE with hE
    injection hE with ea er
    subst ea er
    obtain ⟨s1, s2⟩ := LI.done st1.env I hv
    exact .inl ⟨i2 rfl, q _ _ _ s1 s2⟩
abbrev Blk (X : Cx) (scope : Scope) (P : Cx → Prop) : Prop := ∀ (s : Shared) (H : Hp) (C : Addr) (cl : List (Str × Addr)) (fp : List Addr), P (X.blk s H scope (compEnvC scope cl C X.env) fp)
theorem pm_lc {elt tg iter : Expr} {ifs : List Expr} {scope : Scope} {pos : Pos} {fi : M (List PyData)} {is : List Nat} {g : GM} {ft : M Bool} {fe : M PyData} (own : List (Str × Nat)) (hi : PMI X F tg iter fi) (ok : BlkOk X.N X.env.scope scope own) (hN : X.N.Nodup)
    (hg : Blk X scope fun Y => PMG Y F.nox tg is g) (ht : Blk X scope fun Y => PMTs Y F.nox ifs ft) (he : Blk X scope fun Y => PM Y F.nox elt fe)
    (his : ∀ i ∈ is, i ∈ own.map (·.2) := by decide) (hl : F.ls ∉ own.map (·.2) ∨ F.lent = none := by first | exact Or.inr rfl | exact Or.inl (nm_ls rfl)) (hc : X.calm = true := by rfl) (hs : ∀ x, foldedSetIterable iter X.env x = pure x := by intro _; rfl) :
    PM X F (.ListComp elt [⟨tg, iter, ifs, 0⟩] scope pos) (lcM (own.map (·.2)) fi g ft fe) :=
  PE.imp (pe_lc (g := tGM X.kw F.nox is g) (tt := tMT X.kw F.nox ft) (te := tM X.kw F.nox fe) hc hN hi ok hg ht he hs) fun _ _ _ h => lc_of his hl h
theorem asg_of {f : M PyData} {i : Nat} {D : Ends} {σ : St} {H : Hp} {K : KW} (hl : i ≠ F.ls ∨ F.lent = none) (h : tS K F (asgO f (setS i)) D σ H) : tM K F f σ H fun x H1 => gName i x σ H1 D.nx := by
  obtain ⟨V, ρ, E, g⟩ := h
  refine ⟨V, ρ, E, Goal.ex g fun v d H1 V1 ρ1 st1 r1 g1 => ?_⟩
  unfold setS at g1
  by_cases hlt : i < ρ1.length
  · rw [if_pos hlt] at g1
    exact g1 _ _ _ (st1.env.setSh r1 hl) (Same.refl _)
  · rw [if_neg hlt] at g1
    exact False.elim g1
theorem pms_setLc (i : Nat) {y : Str} {py spos : Pos} {elt tg iter : Expr} {ifs : List Expr} {scope : Scope} {pos : Pos} {fi : M (List PyData)} {is : List Nat} {g : GM} {ft : M Bool} {fe : M PyData} (own : List (Str × Nat)) (hi : PMI X F tg iter fi) (ok : BlkOk X.N X.env.scope scope own) (hN : X.N.Nodup)
    (hg : Blk X scope fun Y => PMG Y F.nox tg is g) (ht : Blk X scope fun Y => PMTs Y F.nox ifs ft) (he : Blk X scope fun Y => PM Y F.nox elt fe)
    (hy : X.N[i]? = some y := by rfl) (hyl : X.env.scope.names.lookup y = some .local := by rfl)
    (hsw : swapsWith (.ListComp elt [⟨tg, iter, ifs, 0⟩] scope pos) (some (.Name y py)) spos.line X.env = pure true := by exact sw_true rfl rfl rfl (by decide +kernel))
    (his : ∀ i ∈ is, i ∈ own.map (·.2) := by decide) (hl : F.ls ∉ own.map (·.2) ∨ F.lent = none := by first | exact Or.inr rfl | exact Or.inl (nm_ls rfl)) (hli : i ≠ F.ls ∨ F.lent = none := by first | exact Or.inr rfl | exact Or.inl (ne_ls rfl)) (hc : X.calm = true := by rfl) (hs : ∀ x, foldedSetIterable iter X.env x = pure x := by intro _; rfl) :
    PMS X F (.Assign [.Name y py] (.ListComp elt [⟨tg, iter, ifs, 0⟩] scope pos) spos) (asgO (lcM (own.map (·.2)) fi g ft fe) (setS i)) :=
  PS.imp (ps_setLc (g := tGM X.kw F.nox is g) (tt := tMT X.kw F.nox ft) (te := tM X.kw F.nox fe) hc hN hy hyl hsw hi ok hg ht he hs) fun _ _ _ h => lc_of his hl (asg_of hli h)
end
end DL
set_option Elab.async false
set_option linter.all false
set_option maxRecDepth 100000
set_option maxHeartbeats 1000000
namespace DL
open PySem PySem.Spec PyProof.Rows L2
variable [TabCtx]
def lcLoop2 (vs vs1 : List Nat) (g : GM) (t : M Bool) (fi1 : M (List PyData)) (g1 : GM) (t1 : M Bool) (e : M PyData) : List PyData → Rho → List PyData → R (List PyData × Rho)
  | [], ρ, acc => .ok (acc, ρ)
  | d :: ds, ρ, acc => match g d (wipeR ρ vs) with
    | .ok ρ1 => (match t ρ1 with
      | .ok (true, ρ2) => (match fi1 ρ2 with
        | .ok (ds1, ρ3) => (match lcLoop vs1 g1 t1 e ds1 ρ3 acc with
          | .ok (acc', ρ4) => lcLoop2 vs vs1 g t fi1 g1 t1 e ds ρ4 acc'
          | _ => .bad)
        | _ => .bad)
      | .ok (false, ρ2) => lcLoop2 vs vs1 g t fi1 g1 t1 e ds ρ2 acc
      | _ => .bad)
    | _ => .bad
def lcM2 (vs vs1 : List Nat) (a : M (List PyData)) (g : GM) (t : M Bool) (fi1 : M (List PyData)) (g1 : GM) (t1 : M Bool) (e : M PyData) : M PyData := M.bind a fun ds ρ => if vs.any (fun i => isOw ρ[i]?) = true then .bad else (match lcLoop2 vs vs1 g t fi1 g1 t1 e ds ρ [] with
  | .ok (acc, ρ') => .ok (.list acc, resR ρ ρ' vs)
  | _ => .bad)
theorem wipe_sub (σ : St) {vs ws : List Nat} (h : ∀ i ∈ ws, i ∈ vs) : L2.wipe (L2.wipe σ ws) vs = L2.wipe σ vs := by
  apply List.ext_getElem?
  intro i
  by_cases hi : i ∈ vs
  · by_cases hl : i < σ.length
    · rw [wipe_in hi (by rw [wipe_length]; exact hl), wipe_in hi hl]
    · rw [List.getElem?_eq_none (by simp only [wipe_length]; omega), List.getElem?_eq_none (by simp only [wipe_length]; omega)]
  · rw [wipe_outL hi, wipe_outL hi, wipe_outL fun z => hi (h i z)]
theorem wipeR_in {ρ : Rho} {i : Nat} : ∀ {vs : List Nat}, i ∈ vs → i < ρ.length → (wipeR ρ vs)[i]? = some .no
  | v :: vs, h, hl => by
    unfold wipeR
    by_cases e : v = i
    · subst e; exact List.getElem?_set_self (by rw [wipeR_len]; exact hl)
    · rw [List.getElem?_set_ne e]
      rcases List.mem_cons.mp h with z | z
      · exact absurd z.symm e
      · exact wipeR_in z hl
theorem wipeR_sub (ρ : Rho) {vs ws : List Nat} (h : ∀ i ∈ ws, i ∈ vs) : wipeR (wipeR ρ ws) vs = wipeR ρ vs := by
  apply List.ext_getElem?
  intro i
  by_cases hi : i ∈ vs
  · by_cases hl : i < ρ.length
    · rw [wipeR_in hi (by rw [wipeR_len]; exact hl), wipeR_in hi hl]
    · rw [List.getElem?_eq_none (by simp only [wipeR_len]; omega), List.getElem?_eq_none (by simp only [wipeR_len]; omega)]
  · rw [wipeR_out hi, wipeR_out hi, wipeR_out fun z => hi (h i z)]
section
variable {X : Cx} {F : Fr}
theorem lc2_of {K : KW} {vs vs1 is is1 : List Nat} {fi fi1 : M (List PyData)} {g g1 : GM} {ft ft1 : M Bool} {fe : M PyData} (his : ∀ i ∈ is, i ∈ vs) (his1 : ∀ i ∈ is1, i ∈ vs1) (hv1 : ∀ i ∈ vs1, i ∈ vs) (hl : F.ls ∉ vs ∨ F.lent = none) {σ : St} {H : Hp} {Q : VK} (h : tM K F (lcM2 vs vs1 fi g ft fi1 g1 ft1 fe) σ H Q) :
    tLc2 (tI K F fi) (tGM K F.nox is g) (tMT K F.nox ft) (tI K F.nox fi1) (tGM K F.nox is1 g1) (tMT K F.nox ft1) (tM K F.nox fe) vs vs1 σ H Q := by
  obtain ⟨V, ρ, E, g0⟩ := h
  refine ⟨V, ρ, E, Goal.bind g0 fun J ds H1 V1 ρ1 st1 it g1' => fun D hD => ?_⟩
  obtain ⟨acc, ρ', hL, hv, q⟩ := lcM_run g1'
  have hl1 : F.ls ∉ vs1 ∨ F.lent = none := hl.imp (fun h z => h (hv1 _ z)) id
  have LD : ∀ ds' ρ acc, lcLoop2 vs vs1 g ft fi1 g1 ft1 fe (ds' : List PyData) ρ acc = lcLoop2 vs vs1 g ft fi1 g1 ft1 fe ds' ρ acc := fun _ _ _ => rfl
  refine ⟨fun i m H' => m = ds.length - i ∧ i ≤ ds.length ∧ ∃ V' ρc ys accd, LI K F vs σ ρ1 H1 V1 D (L2.wipe σ vs) (wipeR ρc vs) H' V' ys accd ∧ lcLoop2 vs vs1 g ft fi1 g1 ft1 fe (ds.drop i) ρc accd = .ok (acc, ρ'),
    ⟨ds.length, rfl, Nat.zero_le _, V1, ρ1, [], [], (LI.start st1.env hD).wipe vs hl, hL⟩, ?_⟩
  rintro i m H' ⟨rfl, hle, V', ρc, ys, accd, I, hE⟩
  obtain ⟨i1, i2⟩ := it i H' V' I.sv I.env.sub
  by_cases hlt : i < ds.length
  · obtain ⟨go, yl⟩ := i1 _ (List.getElem?_eq_getElem hlt)
    rw [List.drop_eq_getElem_cons hlt] at hE
    refine .inr ⟨go, fun H2 => ∃ V' ρc ys accd, LI K F vs σ ρ1 H1 V1 D (L2.wipe σ vs) (wipeR ρc vs) H2 V' ys accd ∧ lcLoop2 vs vs1 g ft fi1 g1 ft1 fe (ds.drop (i + 1)) ρc accd = .ok (acc, ρ'), fun H2 h => ⟨ds.length - (i + 1), by omega, rfl, hlt, h⟩, fun x H2 y => ?_⟩
    obtain ⟨V2, x2, r2⟩ := yl x H2 y
    have I2 := I.ext x2
    refine ⟨V2, wipeR ρc vs, ds[i], I2.env.nox, r2, ?_⟩
    unfold lcLoop2 at hE
    cases eg : g ds[i] (wipeR ρc vs) with
    | exc c => rw [eg] at hE; cases hE
    | bad => rw [eg] at hE; cases hE
    | ok ρ3 =>
      rw [eg] at hE
      intro σ3 H3 V3 E3 x3 w3 o3 p3
      have ew : L2.wipe σ3 vs = L2.wipe σ vs := (w3 vs his).trans (wipe_wipe σ vs)
      have I3 := I2.tgt E3.unnox x3 o3 p3 his
      refine ⟨ew, V3, ρ3, E3, ?_⟩
      have hE : (match ft ρ3 with
        | .ok (true, ρ2) => (match fi1 ρ2 with
          | .ok (ds1, ρ3) => (match lcLoop vs1 g1 ft1 fe ds1 ρ3 accd with
            | .ok (acc', ρ4) => lcLoop2 vs vs1 g ft fi1 g1 ft1 fe (ds.drop (i + 1)) ρ4 acc'
            | _ => .bad)
          | _ => .bad)
        | .ok (false, ρ2) => lcLoop2 vs vs1 g ft fi1 g1 ft1 fe (ds.drop (i + 1)) ρ2 accd
        | _ => .bad) = .ok (acc, ρ') := hE
      show Goal K F.nox σ3 ρ3 H3 V3 (fun _ (b : Bool) a => b = a) (ft ρ3) _
      cases et : ft ρ3 with
      | exc c => rw [et] at hE; cases hE
      | bad => rw [et] at hE; cases hE
      | ok pt =>
        obtain ⟨bt, ρ4⟩ := pt
        rw [et] at hE
        intro b' H4 V4 st4 eb
        subst eb
        have I4 := I3.stp st4.unnox
        cases b' with
        | false =>
          show if false = true then _ else _
          rw [if_neg Bool.false_ne_true]
          have I5 := I4.wipe vs hl
          rw [ew] at I5
          exact ⟨V4, ρ4, ys, accd, I5, hE⟩
        | true =>
          rw [if_pos rfl]
          refine ⟨V4, ρ4, st4.env, ?_⟩
          have hE : (match fi1 ρ4 with
            | .ok (ds1, ρ3) => (match lcLoop vs1 g1 ft1 fe ds1 ρ3 accd with
              | .ok (acc', ρ4) => lcLoop2 vs vs1 g ft fi1 g1 ft1 fe (ds.drop (i + 1)) ρ4 acc'
              | _ => .bad)
            | _ => .bad) = .ok (acc, ρ') := hE
          cases ei : fi1 ρ4 with
          | exc c => rw [ei] at hE; cases hE
          | bad => rw [ei] at hE; cases hE
          | ok pi =>
            obtain ⟨ds1, ρ5⟩ := pi
            rw [ei] at hE
            have hE : (match lcLoop vs1 g1 ft1 fe ds1 ρ5 accd with
              | .ok (acc', ρ4) => lcLoop2 vs vs1 g ft fi1 g1 ft1 fe (ds.drop (i + 1)) ρ4 acc'
              | _ => .bad) = .ok (acc, ρ') := hE
            intro J1 H5 V5 st5 it1
            have I5 := I4.stp st5.unnox
            cases el : lcLoop vs1 g1 ft1 fe ds1 ρ5 accd with
            | exc c => rw [el] at hE; cases hE
            | bad => rw [el] at hE; cases hE
            | ok pl =>
              obtain ⟨acc', ρ6⟩ := pl
              rw [el] at hE
              have hE : lcLoop2 vs vs1 g ft fi1 g1 ft1 fe (ds.drop (i + 1)) ρ6 acc' = .ok (acc, ρ') := hE
              refine ⟨fun j k H' => k = ds1.length - j ∧ j ≤ ds1.length ∧ ∃ V' ρc ys accd, LI K F vs σ ρ1 H1 V1 D (L2.wipe σ3 vs1) (wipeR ρc vs1) H' V' ys accd ∧ Same V5 V' ∧ lcLoop vs1 g1 ft1 fe (ds1.drop j) ρc accd = .ok (acc', ρ6),
                ⟨ds1.length, rfl, Nat.zero_le _, V5, ρ5, ys, accd, I5.wipe vs1 hl1, Same.refl _, el⟩, ?_⟩
              rintro j k Hj ⟨rfl, hlj, Vj, ρj, yj, aj, Ij, svj, ej⟩
              obtain ⟨j1, j2⟩ := it1 j Hj Vj svj Ij.env.sub
              by_cases hltj : j < ds1.length
              · obtain ⟨go1, yl1⟩ := j1 _ (List.getElem?_eq_getElem hltj)
                rw [List.drop_eq_getElem_cons hltj] at ej
                refine .inr ⟨go1, fun H2 => ∃ V' ρc ys accd, LI K F vs σ ρ1 H1 V1 D (L2.wipe σ3 vs1) (wipeR ρc vs1) H2 V' ys accd ∧ Same V5 V' ∧ lcLoop vs1 g1 ft1 fe (ds1.drop (j + 1)) ρc accd = .ok (acc', ρ6), fun H2 h => ⟨ds1.length - (j + 1), by omega, rfl, hltj, h⟩, fun xj H6 yyj => ?_⟩
                obtain ⟨V6, x6, r6⟩ := yl1 xj H6 yyj
                have I6 := Ij.ext x6
                refine ⟨V6, wipeR ρj vs1, ds1[j], I6.env.nox, r6, ?_⟩
                unfold lcLoop at ej
                cases eg1 : g1 ds1[j] (wipeR ρj vs1) with
                | exc c => rw [eg1] at ej; cases ej
                | bad => rw [eg1] at ej; cases ej
                | ok ρ7 =>
                  rw [eg1] at ej
                  intro σ7 H7 V7 E7 x7 w7 o7 p7
                  have ew7 : L2.wipe σ7 vs1 = L2.wipe σ3 vs1 := (w7 vs1 his1).trans (wipe_wipe σ3 vs1)
                  have I7 := I6.tgt E7.unnox x7 o7 p7 (fun i hi => hv1 i (his1 i hi))
                  have sv7 : Same V5 V7 := (svj.trans x6.v).trans x7.v
                  refine ⟨ew7, V7, ρ7, E7, ?_⟩
                  have ej : (match ft1 ρ7 with
                    | .ok (true, ρ2) => (match fe ρ2 with
                      | .ok (y, ρ3) => if aj.length < LIM then lcLoop vs1 g1 ft1 fe (ds1.drop (j + 1)) ρ3 (aj ++ [y]) else .bad
                      | _ => .bad)
                    | .ok (false, ρ2) => lcLoop vs1 g1 ft1 fe (ds1.drop (j + 1)) ρ2 aj
                    | _ => .bad) = .ok (acc', ρ6) := ej
                  show Goal K F.nox σ7 ρ7 H7 V7 (fun _ (b : Bool) a => b = a) (ft1 ρ7) _
                  cases et1 : ft1 ρ7 with
                  | exc c => rw [et1] at ej; cases ej
                  | bad => rw [et1] at ej; cases ej
                  | ok pt1 =>
                    obtain ⟨bt1, ρ8⟩ := pt1
                    rw [et1] at ej
                    intro b1 H8 V8 st8 eb1
                    subst eb1
                    have I8 := I7.stp st8.unnox
                    cases b1 with
                    | false =>
                      show if false = true then _ else _
                      rw [if_neg Bool.false_ne_true]
                      have I9 := I8.wipe vs1 hl1
                      rw [ew7] at I9
                      exact ⟨V8, ρ8, yj, aj, I9, sv7.trans st8.v, ej⟩
                    | true =>
                      rw [if_pos rfl]
                      refine ⟨V8, ρ8, st8.env, ?_⟩
                      have ej : (match fe ρ8 with
                        | .ok (y, ρ3) => if aj.length < LIM then lcLoop vs1 g1 ft1 fe (ds1.drop (j + 1)) ρ3 (aj ++ [y]) else .bad
                        | _ => .bad) = .ok (acc', ρ6) := ej
                      cases ee : fe ρ8 with
                      | exc c => rw [ee] at ej; cases ej
                      | bad => rw [ee] at ej; cases ej
                      | ok pe =>
                        obtain ⟨yd, ρ9⟩ := pe
                        rw [ee] at ej
                        have ej : (if aj.length < LIM then lcLoop vs1 g1 ft1 fe (ds1.drop (j + 1)) ρ9 (aj ++ [yd]) else .bad) = .ok (acc', ρ6) := ej
                        intro yv H9 V9 st9 ry
                        by_cases hlm : aj.length < LIM
                        · rw [if_pos hlm] at ej
                          have I9 := I8.stp st9.unnox
                          have I10 := (I9.app ry).wipe vs1 hl1
                          rw [ew7] at I10
                          exact ⟨yj, I9.hD, by rw [I9.rl.length]; exact Nat.lt_trans hlm lim_lt, V9, ρ9, _, _, I10, (sv7.trans st8.v).trans st9.v, ej⟩
                        · rw [if_neg hlm] at ej; cases ej
              · have ejj : j = ds1.length := by omega
                subst ejj
                rw [List.drop_length] at ej
                have ej : R.ok (aj, ρj) = R.ok (acc', ρ6) := ej
                injection ej with ej
                injection ej with ea er
                subst ea er
                have I6 := Ij.wipe vs hl
                rw [wipe_sub σ3 hv1, wipeR_sub ρj hv1, ew] at I6
                exact .inl ⟨j2 rfl, Vj, ρj, yj, aj, I6, hE⟩
  · have ei : i = ds.length := by omega
    subst ei
    rw [List.drop_length] at hE
    have hE : R.ok (accd, ρc) = R.ok (acc, ρ') := hE
    injection hE with hE
    injection hE with ea er
    subst ea er
    obtain ⟨s1, s2⟩ := LI.done st1.env I hv
    exact .inl ⟨i2 rfl, q _ _ _ s1 s2⟩
theorem pm_lc2 {elt tg iter tg1 iter1 : Expr} {ifs ifs1 : List Expr} {scope : Scope} {pos : Pos} {fi fi1 : M (List PyData)} {is is1 : List Nat} {g g1 : GM} {ft ft1 : M Bool} {fe : M PyData} (own : List (Str × Nat)) (vs1 : List Nat) (hi : PMI X F tg iter fi) (ok : BlkOk X.N X.env.scope scope own) (hN : X.N.Nodup)
    (hg : Blk X scope fun Y => PMG Y F.nox tg is g) (ht : Blk X scope fun Y => PMTs Y F.nox ifs ft) (hi1 : Blk X scope fun Y => PMI Y F.nox tg1 iter1 fi1) (hg1 : Blk X scope fun Y => PMG Y F.nox tg1 is1 g1) (ht1 : Blk X scope fun Y => PMTs Y F.nox ifs1 ft1) (he : Blk X scope fun Y => PM Y F.nox elt fe)
    (his : ∀ i ∈ is, i ∈ own.map (·.2) := by decide) (his1 : ∀ i ∈ is1, i ∈ vs1 := by decide) (hv1 : ∀ i ∈ vs1, i ∈ own.map (·.2) := by decide) (hl : F.ls ∉ own.map (·.2) ∨ F.lent = none := by first | exact Or.inr rfl | exact Or.inl (nm_ls rfl)) (hc : X.calm = true := by rfl) (hs : ∀ x, foldedSetIterable iter X.env x = pure x := by intro _; rfl) (hs1 : ∀ env x, foldedSetIterable iter1 env x = pure x := by intro _ _; rfl) :
    PM X F (.ListComp elt [⟨tg, iter, ifs, 0⟩, ⟨tg1, iter1, ifs1, 0⟩] scope pos) (lcM2 (own.map (·.2)) vs1 fi g ft fi1 g1 ft1 fe) :=
  PE.imp (pe_lc2 (wi1 := tI X.kw F.nox fi1) (g := tGM X.kw F.nox is g) (tt := tMT X.kw F.nox ft) (g1 := tGM X.kw F.nox is1 g1) (tt1 := tMT X.kw F.nox ft1) (te := tM X.kw F.nox fe) hc hN hi ok hv1 hg ht hi1 hg1 ht1 he hs hs1) fun _ _ _ h => lc2_of his his1 hv1 hl h
end
end DL
set_option Elab.async false
set_option linter.all false
set_option maxRecDepth 100000
set_option maxHeartbeats 1000000
namespace DL
open PySem PySem.Spec PyProof.Rows L2
variable [TabCtx]
section
variable {K : KW} {F : Fr} {σ : St} {ρ ρ1 : Rho} {H V H1 V1 : Hp}
theorem getElem_set_some {α : Type} {l : List α} {i j : Nat} {x y : α} (h : (l.set i x)[j]? = some y) : (i = j ∧ x = y ∧ i < l.length) ∨ (i ≠ j ∧ l[j]? = some y) := by
  by_cases e : i = j
  · subst e
    by_cases hi : i < l.length
    · rw [List.getElem?_set_self hi] at h
      exact .inl ⟨rfl, Option.some.inj h, hi⟩
    · rw [List.getElem?_eq_none (by simpa using hi)] at h; cases h
  · rw [List.getElem?_set_ne e] at h
    exact .inr ⟨e, h⟩
/-- a slot is given a new own thing -/
theorem EnvR.setOw (E : EnvR K F H V σ ρ) {i : Nat} {p : Addr} {o : HO} {d : PyData} (hp : H p = none) (r : OwnAt K V (upd H p o) p d) (hl : i ≠ F.ls ∨ F.lent = none) : EnvR K F (upd H p o) V (σ.set i (some (.ref p))) (ρ.set i (.ow d)) := by
  have hlen := E.len
  have E1 := E.grow (Ext.hid (o := o) E.sub hp)
  have np : ∀ {j : Nat} {e : PyData} {a : Addr}, ρ[j]? = some (.ow e) → σ[j]? = some (some (.ref a)) → a ≠ p := fun {j e a} h1 h2 z => by
    obtain ⟨b, q1, q2, q3, q4⟩ := E.ow j e h1
    rw [h2] at q1
    cases q1
    obtain ⟨o, q5, _⟩ := q4.there
    rw [z, hp] at q5
    cases q5
  refine ⟨by simp [hlen], E1.ext, fun j e h => ?_, fun j e h => ?_, fun j k a e e' h1 h2 h3 h4 => ?_, fun a ha => ?_, E.tab⟩
  · rcases getElem_set_some h with ⟨_, q, _⟩ | ⟨n, q⟩
    · cases q
    · rw [List.getElem?_set_ne n]; exact E1.sh j e q
  · rcases getElem_set_some h with ⟨rfl, q, hi⟩ | ⟨n, q⟩
    · cases q
      exact ⟨p, List.getElem?_set_self (by omega), E.sub.free hp, E.ext.free hp, r⟩
    · rw [List.getElem?_set_ne n]; exact E1.ow j e q
  · rcases getElem_set_some h1 with ⟨rfl, _, _⟩ | ⟨n1, q1⟩
    · rcases getElem_set_some h2 with ⟨rfl, _, _⟩ | ⟨n2, q2⟩
      · rfl
      · rcases getElem_set_some h3 with ⟨_, q3, _⟩ | ⟨n3, _⟩
        · rcases getElem_set_some h4 with ⟨z, _, _⟩ | ⟨_, q4⟩
          · exact absurd z n2
          · exact absurd (L2.V.ref.inj (Option.some.inj q3)).symm (np q2 q4)
        · exact absurd rfl n3
    · rcases getElem_set_some h2 with ⟨rfl, _, _⟩ | ⟨n2, q2⟩
      · rcases getElem_set_some h4 with ⟨_, q4, _⟩ | ⟨n3, _⟩
        · rcases getElem_set_some h3 with ⟨z, _, _⟩ | ⟨_, q3⟩
          · exact absurd z n1
          · exact absurd (L2.V.ref.inj (Option.some.inj q4)).symm (np q1 q3)
        · exact absurd rfl n3
      · rw [List.getElem?_set_ne n1] at h3
        rw [List.getElem?_set_ne n2] at h4
        exact E.dis j k a e e' q1 q2 h3 h4
  · rcases hl with hl | hl
    · rw [List.getElem?_set_ne hl]; exact E.lent a ha
    · rw [hl] at ha; cases ha
/-- an own thing is changed -/
theorem EnvR.updOw (E : EnvR K F H V σ ρ) {i : Nat} {p : Addr} {o : HO} {d d' : PyData} (h0 : ρ[i]? = some (.ow d)) (h1 : σ[i]? = some (some (.ref p))) (r : OwnAt K V (upd H p o) p d') : EnvR K F (upd H p o) V σ (ρ.set i (.ow d')) := by
  obtain ⟨b, q1, q2, q3, q4⟩ := E.ow i d h0
  rw [h1] at q1
  cases q1
  refine ⟨by simp [E.len], ⟨fun b x e n => ?_, E.ext.v, fun b x e => ?_, E.ext.f, fun b h => ?_, fun t => tabs_upd q4.plain (E.ext.t t)⟩, fun j e h => ?_, fun j e h => ?_, fun j k a e e' h1' h2 h3 h4 => ?_, E.lent, E.tab⟩
  · rw [upd_ne (fun z => by rw [z, q3] at e; cases e)]; exact E.ext.h b x e n
  · rw [upd_ne (fun z => by rw [z, q2] at e; cases e)]; exact E.ext.s b x e
  · rw [upd_ne (fun z => h (by rw [z]; exact q3))]; exact E.ext.th b h
  · rcases getElem_set_some h with ⟨_, q, _⟩ | ⟨n, q⟩
    · cases q
    · exact E.sh j e q
  · rcases getElem_set_some h with ⟨rfl, q, hi⟩ | ⟨n, q⟩
    · cases q
      exact ⟨p, h1, q2, q3, r⟩
    · obtain ⟨a, w1, w2, w3, w4⟩ := E.ow j e q
      refine ⟨a, w1, w2, w3, w4.mono (Same.refl _) fun o' e' _ => ?_⟩
      rw [upd_ne (fun z => n (by rw [z] at w1; exact E.dis i j p d e h0 q h1 w1))]
      exact e'
  · have f : ∀ {j : Nat} {e : PyData}, (ρ.set i (.ow d'))[j]? = some (.ow e) → ∃ e, ρ[j]? = some (.ow e) := fun {j e} h => by
      rcases getElem_set_some h with ⟨rfl, q, hi⟩ | ⟨n, q⟩
      · exact ⟨d, h0⟩
      · exact ⟨e, q⟩
    obtain ⟨e1, w1⟩ := f h1'
    obtain ⟨e2, w2⟩ := f h2
    exact E.dis j k a e1 e2 w1 w2 h3 h4
end
def ownO (i : Nat) (a : M (List PyData)) : SM := exO a fun ds ρ => if ds.length ≤ LIM then .nx (ρ.set i (.ow (.list ds))) else .bad
def appO (i : Nat) (a : M PyData) : SM := fun ρ => match ρ[i]? with
  | some (.ow (.list _)) => exO a (fun d ρ => match ρ[i]? with
    | some (.ow (.list ds)) => if ds.length < LIM then .nx (ρ.set i (.ow (.list (ds ++ [d])))) else .bad
    | _ => .bad) ρ
  | _ => .bad
/-- o[k] of an own list -/
def ixI (i : Nat) (a : M PyData) : M PyData := M.bind a fun k ρ => match ρ[i]?, k with
  | some (.ow (.list ds)), .int j => (match atD ds j with
    | some z => .ok (z, ρ)
    | none => .bad)
  | _, _ => .bad
def ixO (i : Nat) (a : M PyData) : M PyData := fun ρ => if isOw ρ[i]? = true then ixI i a ρ else .bad
/-- o[k] = e of an own list -/
def sixI (i : Nat) (d : PyData) (k : M PyData) : SM := exO k fun j ρ => match ρ[i]?, j with
  | some (.ow (.list ds)), .int j => (match ixN ds.length j with
    | some n => .nx (ρ.set i (.ow (.list (ds.set n d))))
    | none => .bad)
  | _, _ => .bad
def sixO (i : Nat) (k a : M PyData) : SM := exO a fun d ρ => if isOw ρ[i]? = true then sixI i d k ρ else .bad
section
variable {X : Cx} {F : Fr} {e k : Expr} {es : List Expr} {fa fk : M PyData} {fs : M (List PyData)} {pos : Pos}
theorem pms_own (i : Nat) {x : Str} {pos' posl : Pos} (ha : PMA X F es fs) (hN : X.N.Nodup) (hi : X.N[i]? = some x := by rfl) (hx : Loc X.env.scope x := by first | exact Or.inl rfl | exact Or.inr rfl) (hl : i ≠ F.ls ∨ F.lent = none := by first | exact Or.inr rfl | exact Or.inl (ne_ls rfl))
    (hs : swapsWith (.List es posl) (some (.Name x pos')) pos.line X.env = pure false := by rfl) (hf : X.fn x = true ∨ X.env.scope.names.lookup x = some .local := by first | exact .inl rfl | exact .inr rfl | assumption) :
    PMS X F (.Assign [.Name x pos'] (.List es posl) pos) (ownO i fs) := by
  refine PS.imp (ps_set hN hi hx (pe_lst ha) hs hf) fun D σ H ⟨V, ρ, E, g⟩ => ⟨V, ρ, E, Goal.ex g fun xs ds H1 V1 ρ1 st1 r1 g1 => ?_⟩
  by_cases hlm : ds.length ≤ LIM
  · have g1 : GoalS X.kw F V1 (if ds.length ≤ LIM then .nx (ρ1.set i (.ow (.list ds))) else .bad) D := g1
    rw [if_pos hlm] at g1
    refine ⟨by rw [r1.length]; exact Nat.le_trans hlm lim_le, fun p hp => ?_⟩
    exact g1 _ _ _ (st1.env.setOw hp ⟨xs, upd_same, r1⟩ hl) (Same.refl _)
  · have g1 : GoalS X.kw F V1 (if ds.length ≤ LIM then .nx (ρ1.set i (.ow (.list ds))) else .bad) D := g1
    rw [if_neg hlm] at g1
    exact False.elim g1
theorem pms_app (i : Nat) {x : Str} {px apos cpos : Pos} (ha : PM X F e fa) (hN : X.N[i]? = some x := by rfl) (hv : Vis X.env.scope x := by first | exact Or.inl rfl | exact Or.inr (Or.inl rfl) | exact Or.inr (Or.inr rfl)) (hd : (x == ("__debug__" : Str)) = false := by decide) (hcd : (x == ("__classdict__" : Str)) = false := by decide)
    (hbase : attributeBase (.Name x px) "append" X.env (eval (.Name x px) X.env) = eval (.Name x px) X.env := by rfl)
    (hfew : ((backTo cpos (starEach [e] X.env)).all (fun x => !x.1) && (backToKw cpos (keywordEach [] X.env)).all (fun x => x.1.isSome) && decide ([e].length + ([] : List Keyword).length + (if ([] : List Keyword).isEmpty then 0 else 1) < 30)) = true := by rfl)
    (hline : (apos.endLine == cpos.line) = true := by rfl) (hs : starEach [e] X.env = (false, eval e X.env) :: starEach [] X.env := by rfl) (hplain : (backTo cpos (starEach [] X.env)).any (·.1) = false := by rfl)
    (hsw : swapsWith (.Call (.Attribute (.Name x px) "append" apos) [e] [] cpos) none pos.line X.env = pure false := by rfl) :
    PMS X F (.Expr (.Call (.Attribute (.Name x px) "append" apos) [e] [] cpos) pos) (appO i fa) := by
  refine PS.imp (ps_expr (pe_bm PySem.F.plainAttrs_list PySem.F.slot_list_append PySem.F.type_list_append mt_append (pe_var hN hv hd hcd) (pa_cons ha pa_nil hs) hbase hfew hline hs hplain) hsw) fun D σ H ⟨V, ρ, E, g⟩ => ?_
  unfold appO at g
  cases eo : ρ[i]? with
  | none => rw [eo] at g; exact False.elim g
  | some s =>
    rw [eo] at g
    cases s with
    | no => exact False.elim g
    | sh d => exact False.elim g
    | ow d =>
      cases d with
      | list ds0 =>
        obtain ⟨a, h1, h2, h3, xs0, h4, h5⟩ := E.ow i _ eo
        refine ⟨.ref a, h1, .inl ⟨rfl, xs0, .inl (.inl h4)⟩, V, ρ, E, Goal.ex g fun v d H1 V1 ρ1 st1 r1 g1 => ?_⟩
        cases eo1 : ρ1[i]? with
        | none => rw [eo1] at g1; exact False.elim g1
        | some s1 =>
          rw [eo1] at g1
          cases s1 with
          | no => exact False.elim g1
          | sh d => exact False.elim g1
          | ow d1 =>
            cases d1 with
            | list ds =>
              have g1 : GoalS X.kw F V1 (if ds.length < LIM then .nx (ρ1.set i (.ow (.list (ds ++ [d])))) else .bad) D := g1
              obtain ⟨a', q1, q2, q3, xs, q4, q5⟩ := st1.env.ow i _ eo1
              have ea : a' = a := by rw [h1] at q1; exact (L2.V.ref.inj (Option.some.inj (Option.some.inj q1))).symm
              subst ea
              by_cases hlm : ds.length < LIM
              · rw [if_pos hlm] at g1
                refine ⟨a', xs, v, rfl, rfl, q4, by rw [q5.length]; exact Nat.lt_trans hlm lim_lt, ?_⟩
                exact g1 _ _ _ (st1.env.updOw eo1 q1 ⟨_, upd_same, q5.append (.cons r1 .nil)⟩) (Same.refl _)
              · rw [if_neg hlm] at g1
                exact False.elim g1
            | _ => exact False.elim g1
      | _ => exact False.elim g
theorem pm_ixO (i : Nat) {x : Str} {px : Pos} (hk : PM X F k fk) (hN : X.N[i]? = some x := by rfl) (hv : Vis X.env.scope x := by first | exact Or.inl rfl | exact Or.inr (Or.inl rfl) | exact Or.inr (Or.inr rfl)) (hd : (x == ("__debug__" : Str)) = false := by decide) (hcd : (x == ("__classdict__" : Str)) = false := by decide)
    (hs : PlainIx k := by exact fun _ _ => rfl) : PM X F (.Subscript (.Name x px) k pos) (ixO i fk) := by
  refine PE.imp (pe_ix ix_list (pe_var hN hv hd hcd) hk hs) fun σ H Q ⟨V, ρ, E, g⟩ => ?_
  have g : Goal X.kw F σ ρ H V (Rep X.kw) (if isOw ρ[i]? = true then ixI i fk ρ else .bad) Q := g
  by_cases hio : isOw ρ[i]? = true
  · rw [if_pos hio] at g
    cases eo : ρ[i]? with
    | none => rw [eo] at hio; cases hio
    | some s =>
      cases s with
      | no => rw [eo] at hio; cases hio
      | sh d => rw [eo] at hio; cases hio
      | ow d0 =>
        obtain ⟨a, h1, h2, h3, h4⟩ := E.ow i _ eo
        refine ⟨.ref a, h1, V, ρ, E, Goal.bind g fun v d H1 V1 ρ1 st1 r1 g1 => ?_⟩
        cases eo1 : ρ1[i]? with
        | none => rw [eo1] at g1; exact False.elim g1
        | some s1 =>
          rw [eo1] at g1
          cases s1 with
          | no => exact False.elim g1
          | sh d => exact False.elim g1
          | ow d1 =>
            cases d1 with
            | list ds =>
              cases r1 with
              | int j =>
                have g1 : Goal X.kw F σ ρ1 H1 V1 (Rep X.kw) (match atD ds j with
                  | some z => .ok (z, ρ1)
                  | none => .bad) Q := g1
                obtain ⟨a', q1, q2, q3, xs, q4, q5⟩ := st1.env.ow i _ eo1
                have ea : a' = a := by rw [h1] at q1; exact (L2.V.ref.inj (Option.some.inj (Option.some.inj q1))).symm
                subst ea
                cases ez : atD ds j with
                | none => rw [ez] at g1; exact False.elim g1
                | some z =>
                  rw [ez] at g1
                  obtain ⟨u, w1, w2⟩ := atD_get q5 ez
                  exact ⟨a', xs, j, u, rfl, rfl, .inl (.inl q4), w1, g1 u H1 V1 st1.env.refl w2⟩
              | _ => exact False.elim g1
            | _ => exact False.elim g1
  · rw [if_neg hio] at g
    exact False.elim g
theorem pms_six (i : Nat) {x : Str} {px spos : Pos} (ha : PM X F e fa) (hk : PM X F k fk) (hN : X.N[i]? = some x := by rfl) (hv : Vis X.env.scope x := by first | exact Or.inl rfl | exact Or.inr (Or.inl rfl) | exact Or.inr (Or.inr rfl)) (hd : (x == ("__debug__" : Str)) = false := by decide) (hcd : (x == ("__classdict__" : Str)) = false := by decide)
    (has : ∀ v, assign (.Subscript (.Name x px) k spos) X.env v = (do
      let ov ← holding [v] (eval (.Name x px) X.env)
      let iv ← holding [v, ov] (eval k X.env)
      standAt spos
      holding [v, ov, iv] (setItem ov iv v)
      release [v, ov, iv] []) := by intro _; rfl) (hs : swapsWithSole [.Subscript (.Name x px) k spos] e pos.line X.env = pure false := by rfl) (hw : swappedStores [.Subscript (.Name x px) k spos] e X.env = pure none := by rfl)
    (h1 : (assignEach [.Subscript (.Name x px) k spos] X.env).map (·.2) = [assign (.Subscript (.Name x px) k spos) X.env] := by rfl) :
    PMS X F (.Assign [.Subscript (.Name x px) k spos] e pos) (sixO i fk fa) := by
  refine PS.imp (ps_asg ha (pg_sub (pe_var hN hv hd hcd) hk set_list has) hs hw h1) fun D σ H ⟨V, ρ, E, g⟩ => ⟨V, ρ, E, Goal.ex g fun v d H1 V1 ρ1 st1 r1 g1 => ?_⟩
  have g1 : GoalS X.kw F V1 (if isOw ρ1[i]? = true then sixI i d fk ρ1 else .bad) D := g1
  by_cases hio : isOw ρ1[i]? = true
  · rw [if_pos hio] at g1
    cases eo : ρ1[i]? with
    | none => rw [eo] at hio; cases hio
    | some s =>
      cases s with
      | no => rw [eo] at hio; cases hio
      | sh d => rw [eo] at hio; cases hio
      | ow d0 =>
        obtain ⟨a, h1, h2, h3, h4⟩ := st1.env.ow i _ eo
        refine ⟨.ref a, h1, V1, ρ1, st1.env, Goal.ex g1 fun j dj H2 V2 ρ2 st2 r2 g2 => ?_⟩
        cases eo1 : ρ2[i]? with
        | none => rw [eo1] at g2; exact False.elim g2
        | some s1 =>
          rw [eo1] at g2
          cases s1 with
          | no => exact False.elim g2
          | sh d => exact False.elim g2
          | ow d1 =>
            cases d1 with
            | list ds =>
              cases r2 with
              | int j =>
                have g2 : GoalS X.kw F V2 (match ixN ds.length j with
                  | some n => .nx (ρ2.set i (.ow (.list (ds.set n d))))
                  | none => .bad) D := g2
                obtain ⟨a', q1, q2, q3, xs, q4, q5⟩ := st2.env.ow i _ eo1
                have ea : a' = a := by rw [h1] at q1; exact (L2.V.ref.inj (Option.some.inj (Option.some.inj q1))).symm
                subst ea
                cases ez : ixN ds.length j with
                | none => rw [ez] at g2; exact False.elim g2
                | some n =>
                  rw [ez] at g2
                  exact ⟨a', xs, j, n, rfl, rfl, q4, by rw [q5.length]; exact ez, g2 _ _ _ (st2.env.updOw eo1 q1 ⟨_, upd_same, q5.set (r1.mono st2.v) n⟩) (Same.refl _)⟩
              | _ => exact False.elim g2
            | _ => exact False.elim g2
  · rw [if_neg hio] at g1
    exact False.elim g1
end
def hide (H : Hp) (a : Addr) : Hp := fun b => if b = a then none else H b
theorem hide_ne {H : Hp} {a b : Addr} (h : b ≠ a) : hide H a b = H b := by unfold hide; rw [if_neg h]
theorem hide_eq {H : Hp} {a : Addr} : hide H a a = none := by unfold hide; rw [if_pos rfl]
theorem hide_same {H : Hp} {a : Addr} : Same (hide H a) H := fun b o e => by
  by_cases h : b = a
  · rw [h, hide_eq] at e; cases e
  · rw [hide_ne h] at e; exact e
theorem tabs_hide {T : List (Addr × Str)} {H : Hp} {a : Addr} (h : ∀ x, H a = some x → Plain x) (t : LamX.Tabs T H) : LamX.Tabs T (hide H a) := fun q hq => by
  obtain ⟨ps, h1, h2, h3⟩ := t q hq
  refine ⟨ps, ?_, h2, fun pos cv hc => ?_⟩
  · rw [hide_ne (fun z => (h _ (by rw [← z]; exact h1)).t _ rfl)]; exact h1
  · obtain ⟨c, e1, e2⟩ := h3 pos cv hc
    refine ⟨c, e1, ?_⟩
    rw [hide_ne (fun z => (h _ (by rw [← z]; exact e2)).c _ _ rfl)]; exact e2
def start1 (n : Nat) (dd : PyData) (ds : List PyData) : Rho := .ow dd :: (ds.map .sh ++ List.replicate (n - 1 - ds.length) .no)
/-- a def of k parameters besides the lent one, n slots -/
def fnRunL (k n : Nat) (f : SM) (dd : PyData) (ds : List PyData) : R (PyData × PyData) := if ds.length = k then (match f (start1 n dd ds) with
  | .rt d ρ => (match ρ[0]? with
    | some (Sl.ow dd') => .ok (d, dd')
    | _ => .bad)
  | .rf d ρ => (match ρ[0]? with
    | some (Sl.ow dd') => .ok (d, dd')
    | _ => .bad)
  | .nx ρ => (match ρ[0]? with
    | some (Sl.ow dd') => .ok (.none, dd')
    | _ => .bad)
  | .exc c => .exc c
  | _ => .bad) else .bad
def spL (K : KW) (n : Nat) (m : PyData → List PyData → R (PyData × PyData)) : Sp := fun vs H Q E => vs.length = n ∧ ∃ a vs' V dd ds, TabV H V ∧ vs = .ref a :: vs' ∧ Same V H ∧ V a = none ∧ OwnAt K V H a dd ∧ RepL K V vs' ds ∧ match m dd ds with
  | .ok (d, dd') => ∀ v H' V', Ext (hide H a) V H' V' → V' a = none → OwnAt K V' H' a dd' → Rep K V' v d → Q v H'
  | .exc c => ∀ H' V', Ext (hide H a) V H' V' → E (.ref (He.ga K c)) none H'
  | .bad => False
def FnL (P : Program) (w : World) (K : PySem.W.Frag) (mg : Str → Option Value) (base : Heap) (lvl : Nat) (x : Str) (ps : List Str) (m : PyData → List PyData → R (PyData × PyData)) : Prop :=
  ∃ fd, FnOk P w K mg base (L2N.CX P w) lvl (He.ga K x) fd ps (spL ⟨K, w⟩ ps.length m) ∧ Binds K fd ps [] ∧ PySem.W.keepIn K (.ref (He.ga K x)) = true ∧ mg x = some (.ref (He.ga K x)) ∧ ∀ dd ds, m dd ds ≠ .bad → ds.length + 1 = ps.length
abbrev mkL (H V : Hp) (a : Addr) (E : XK) : Fr := ⟨hide H a, V, some a, fun cls _ H' => E cls none H', 0⟩
section
variable {P : Program} {w : World} {K : PySem.W.Frag} {mg : Str → Option Value} {base : Heap} {x : Str} {params : Arguments} {body : List Stmt} {scope : Scope} {fd : FuncData}
theorem env_lent {V H : Hp} {vs : List L2.V} {ds : List PyData} {a : Addr} {dd : PyData} (r : RepL ⟨K, w⟩ V vs ds) {N : List Str} (hle : vs.length + 1 ≤ N.length) {E : XK} (s : Same V H) (hv : V a = none) (ho : OwnAt ⟨K, w⟩ V H a dd) (ht : TabV H V) : EnvR ⟨K, w⟩ (mkL H V a E) H V (L2.start N (.ref a :: vs)) (start1 N.length dd ds) := by
  have hl := r.length
  have f : ∀ {i : Nat} {t : Sl}, (start1 N.length dd ds)[i]? = some t → (i = 0 ∧ t = .ow dd) ∨ (∃ j d, i = j + 1 ∧ ds[j]? = some d ∧ t = .sh d) ∨ t = .no := fun {i t} h => by
    unfold start1 at h
    cases i with
    | zero => exact .inl ⟨rfl, (Option.some.inj h).symm⟩
    | succ j =>
      rw [List.getElem?_cons_succ] at h
      by_cases hi : j < ds.length
      · rw [List.getElem?_append_left (by simpa using hi), List.getElem?_map] at h
        obtain ⟨d', h1, h2⟩ := Option.map_eq_some_iff.mp h
        exact .inr (.inl ⟨j, d', rfl, h1, h2.symm⟩)
      · rw [List.getElem?_append_right (by simpa using hi), List.getElem?_replicate] at h
        split at h
        · exact .inr (.inr (Option.some.inj h).symm)
        · cases h
  refine ⟨?_, .of hide_same (Same.refl _) s (fun _ h _ => h), fun i d h => ?_, fun i d h => ?_, fun i j b d e h1 h2 _ _ => ?_, fun b h => ?_, tabs_hide ho.plain ht.1, ht.2⟩
  · simp only [L2.start, start1, List.length_append, List.length_map, List.length_cons, List.length_replicate, hl]
    omega
  · rcases f h with ⟨_, z⟩ | ⟨j, d', rfl, hj, z⟩ | z
    · cases z
    · cases z
      obtain ⟨v, h3, h4⟩ := r.get j hj
      refine ⟨v, ?_, h4⟩
      unfold L2.start
      have hj' : j < vs.length := (List.getElem?_eq_some_iff.mp h3).1
      rw [List.getElem?_append_left (by simp only [List.length_map, List.length_cons]; omega), List.getElem?_map, List.getElem?_cons_succ, h3]
      rfl
    · cases z
  · rcases f h with ⟨rfl, z⟩ | ⟨j, d', rfl, hj, z⟩ | z
    · cases z
      exact ⟨a, rfl, hv, hide_eq, ho⟩
    · cases z
    · cases z
  · rcases f h1 with ⟨rfl, _⟩ | ⟨j, d', _, _, z⟩ | z
    · rcases f h2 with ⟨rfl, _⟩ | ⟨j, d', _, _, z⟩ | z
      · rfl
      · cases z
      · cases z
    · cases z
    · cases z
  · cases h
    rfl
theorem fn_mkL {N ps : List Str} {k : Nat} {f : SM} (D : FunD K x x params body scope [] [] (He.ga K x) fd) (hx : mg x = some (.ref (He.ga K x))) (S : FnScope N ps scope)
    (hbd : ∀ (kV doc pm : Value) (an : Option Addr) (cdv ct : Value) (us : List Value), us.length = ps.length → bindArgs (PySem.W.fnOf x x params body scope .none kV doc pm an cdv ct) ⟨us, []⟩ = pure (ps.zip us))
    (hps : ps.length ≤ N.length) (hp0 : 0 < ps.length)
    (hb : ∀ (cdv : Value) (A : Around) (outer : List Env) (s : Shared) (H V : Hp) (a : Addr) (E : XK), Room k (A.deeper (envOfC x scope s.heap.objs.size (He.ga K x) cdv)) → PMSs (cxF P w K mg base N x scope cdv A outer s H E) (mkL H V a E) body f) :
    FnL P w K mg base (k + 1) x ps (fnRunL (ps.length - 1) N.length f) := by
  refine ⟨fd, D.ok (CX := L2N.CX P w) S (fun vs H Q E h => h.1) fun cdv A outer s H vs Q E hr h => ?_, D.bindsN hbd, D.kp, hx, fun dd ds h => ?_⟩
  · obtain ⟨hl, a, vs', V, dd, ds, ht, rfl, sv, va, ho, r, g⟩ := h
    rw [List.length_cons] at hl
    refine ⟨_, hb cdv A outer s H V a E hr, V, start1 N.length dd ds, env_lent r (by omega) sv va ho ht, ?_⟩
    unfold fnRunL at g
    rw [if_pos (by rw [← r.length]; omega)] at g
    show GoalS ⟨K, w⟩ (mkL H V a E) V (f (start1 N.length dd ds)) _
    have fin : ∀ {v : L2.V} {d : PyData} {ρ' : Rho} {σ' : St} {H' V' : Hp}, EnvR ⟨K, w⟩ (mkL H V a E) H' V' σ' ρ' → Rep ⟨K, w⟩ V' v d → (match (match ρ'[0]? with
        | some (.ow dd') => (.ok (d, dd') : R (PyData × PyData))
        | _ => .bad) with
      | .ok (d, dd') => ∀ v H' V', Ext (hide H a) V H' V' → V' a = none → OwnAt ⟨K, w⟩ V' H' a dd' → Rep ⟨K, w⟩ V' v d → Q v H'
      | .exc c => ∀ H' V', Ext (hide H a) V H' V' → E (.ref (He.ga K c)) none H'
      | .bad => False) → Q v H' := fun {v d ρ' σ' H' V'} E' r' g => by
      cases e0 : ρ'[0]? with
      | none => rw [e0] at g; exact False.elim g
      | some t =>
        rw [e0] at g
        cases t with
        | no => exact False.elim g
        | sh d => exact False.elim g
        | ow dd' =>
          obtain ⟨b, q1, q2, q3, q4⟩ := E'.ow 0 dd' e0
          have eb : b = a := by
            have := E'.lent a rfl
            rw [q1] at this
            exact L2.V.ref.inj (Option.some.inj (Option.some.inj this))
          subst eb
          exact g v H' V' E'.ext q2 q4 r'
    cases e : f (start1 N.length dd ds) with
    | rt d ρ' => rw [e] at g; exact fun v σ' H' V' E' _ r' => fin E' r' g
    | rf d ρ' => rw [e] at g; exact fun v σ' H' V' E' _ r' _ => fin E' r' g
    | nx ρ' => rw [e] at g; exact fun σ' H' V' E' _ => fin E' .non g
    | exc c => rw [e] at g; exact fun σ' H' V' x => g H' V' x
    | bk ρ' => rw [e] at g; exact False.elim g
    | ct ρ' => rw [e] at g; exact False.elim g
    | bad => rw [e] at g; exact False.elim g
  · unfold fnRunL at h
    by_cases hl : ds.length = ps.length - 1
    · omega
    · rw [if_neg hl] at h; exact absurd rfl h
end
/-- f(d, ..), d an own list in slot i -/
def callI (i : Nat) (m : PyData → List PyData → R (PyData × PyData)) (a : M (List PyData)) : M PyData := M.bind a fun ds ρ => match ρ[i]? with
  | some (.ow dd) => (match m dd ds with
    | .ok (d, dd') => .ok (d, ρ.set i (.ow dd'))
    | .exc c => .exc c
    | .bad => .bad)
  | _ => .bad
def callL (i : Nat) (m : PyData → List PyData → R (PyData × PyData)) (a : M (List PyData)) : M PyData := fun ρ => if isOw ρ[i]? = true then callI i m a ρ else .bad
theorem EnvR.lendX {K : KW} {F : Fr} {σ : St} {ρ : Rho} {H V H' V' : Hp} (E : EnvR K F H V σ ρ) {i : Nat} {a : Addr} {dd : PyData} (h0 : ρ[i]? = some (.ow dd)) (h1 : σ[i]? = some (some (.ref a))) (x : Ext (hide H a) V H' V') : Ext F.H0 F.V0 H' V' := by
  obtain ⟨b, q1, q2, q3, q4⟩ := E.ow i dd h0
  rw [h1] at q1
  cases q1
  have ne : ∀ {b : Addr}, F.H0 b ≠ none → b ≠ a := fun {b} e z => e (by rw [z]; exact q3)
  exact ⟨fun b o e n => x.h b o (by rw [hide_ne (ne (by rw [e]; exact fun z => nomatch z))]; exact E.ext.h b o e n) n, E.ext.v.trans x.v, x.s, (fun b e1 e2 => x.f b (E.ext.f b e1 e2) (by rw [hide_ne (ne e2)]; exact E.ext.th b e2)), (fun b h => x.th b (by rw [hide_ne (ne h)]; exact E.ext.th b h)), fun t => x.t (tabs_hide q4.plain (E.ext.t t))⟩
theorem EnvR.lend {K : KW} {F : Fr} {σ : St} {ρ : Rho} {H V H' V' : Hp} (E : EnvR K F H V σ ρ) {i : Nat} {a : Addr} {dd dd' : PyData} (h0 : ρ[i]? = some (.ow dd)) (h1 : σ[i]? = some (some (.ref a))) (x : Ext (hide H a) V H' V') (va : V' a = none) (ho : OwnAt K V' H' a dd') : Stp K F σ ρ (ρ.set i (.ow dd')) H V H' V' := by
  obtain ⟨b, q1, q2, q3, q4⟩ := E.ow i dd h0
  rw [h1] at q1
  cases q1
  have hil : i < ρ.length := (List.getElem?_eq_some_iff.mp h0).1
  have ne : ∀ {b : Addr} {o : HO}, F.H0 b = some o → b ≠ a := fun {b o} e z => by rw [z, q3] at e; cases e
  have kx : ∀ b o, H b = some o → nT o → b ≠ a → H' b = some o := fun b o e nt n => x.h b o (by rw [hide_ne n]; exact e) nt
  have fx : ∀ b, V b = none → H b ≠ none → V' b = none := fun b e1 e2 => by
    by_cases n : b = a
    · rw [n]; exact va
    · exact x.f b e1 (by rw [hide_ne n]; exact e2)
  have ext : Ext F.H0 F.V0 H' V' := E.lendX h0 h1 x
  have ow : ∀ {j : Nat} {e : PyData}, (ρ.set i (.ow dd'))[j]? = some (.ow e) → ∃ e, ρ[j]? = some (.ow e) := fun {j e} h => by
    rcases getElem_set_some h with ⟨rfl, q, hi⟩ | ⟨n, q⟩
    · exact ⟨dd, h0⟩
    · exact ⟨e, q⟩
  refine ⟨⟨by simp [E.len], ext, fun j e h => ?_, fun j e h => ?_, fun j k b e e' w1 w2 w3 w4 => ?_, E.lent, E.tab⟩, x.v, fun b o e nt n => kx b o e nt fun z => n ⟨i, dd, h0, by rw [z]; exact h1⟩, fun b h => ?_, fun j e h => ?_, fx, fun b h => ?_⟩
  · rcases getElem_set_some h with ⟨_, q, _⟩ | ⟨n, q⟩
    · cases q
    · obtain ⟨v, w1, w2⟩ := E.sh j e q
      exact ⟨v, w1, w2.mono x.v⟩
  · rcases getElem_set_some h with ⟨rfl, q, hi⟩ | ⟨n, q⟩
    · cases q
      exact ⟨a, h1, va, q3, ho⟩
    · obtain ⟨b, w1, w2, w3, w4⟩ := E.ow j e q
      have nb : b ≠ a := fun z => n (by rw [z] at w1; exact E.dis i j a dd e h0 q h1 w1)
      obtain ⟨o, w5, _⟩ := w4.there
      exact ⟨b, w1, fx b w2 (by rw [w5]; exact fun z => nomatch z), w3, w4.mono x.v fun o e nt => kx b o e nt nb⟩
  · obtain ⟨e1, u1⟩ := ow w1
    obtain ⟨e2, u2⟩ := ow w2
    exact E.dis j k b e1 e2 u1 u2 w3 w4
  · obtain ⟨j, e, w1, w2⟩ := h
    obtain ⟨e1, u1⟩ := ow w1
    exact ⟨j, e1, u1, w2⟩
  · rcases getElem_set_some h with ⟨_, q, _⟩ | ⟨n, q⟩
    · cases q
    · exact q
  · by_cases n : b = a
    · rw [n]
      obtain ⟨o, w5, _⟩ := ho.there
      rw [w5]
      exact fun z => nomatch z
    · exact x.th b (by rw [hide_ne n]; exact h)
section
variable {X : Cx} {F : Fr} {es : List Expr} {fs : M (List PyData)} {pos p : Pos}
theorem pm_callL (i : Nat) {y : Str} {py : Pos} {lvl : Nat} {x : Str} {ps : List Str} {m : PyData → List PyData → R (PyData × PyData)} (G : FnL X.prog X.w X.K X.mg X.base lvl x ps m) (hr : Room lvl X.A) (tk : Tk X F) (ha : PMA X F es fs) (hg : Gl X x := by rfl)
    (hN : X.N[i]? = some y := by rfl) (hv : Vis X.env.scope y := by first | exact Or.inl rfl | exact Or.inr (Or.inl rfl) | exact Or.inr (Or.inr rfl)) (hd : (y == ("__debug__" : Str)) = false := by decide) (hcd : (y == ("__classdict__" : Str)) = false := by decide)
    (hdb : (x == ("__debug__" : Str)) = false := by decide) (he : starEach (.Name y py :: es) X.env = (false, eval (.Name y py) X.env) :: starEach es X.env := by rfl) (hpl : (backTo pos (starEach es X.env)).any (·.1) = false := by rfl) : PM X F (.Call (.Name x p) (.Name y py :: es) [] pos) (callL i m fs) := by
  obtain ⟨fd, G1, G2, G3, G4, G5⟩ := G
  refine PE.imp (pe_callS G1 hr hg G4 G3 G2 (fun σ => L2N.passAt tk σ) (pa_cons (pe_var hN hv hd hcd) ha he) hdb he hpl) fun σ H Q ⟨V, ρ, E, g0⟩ => ?_
  have g0 : Goal X.kw F σ ρ H V (Rep X.kw) (if isOw ρ[i]? = true then callI i m fs ρ else .bad) Q := g0
  by_cases hio : isOw ρ[i]? = true
  · rw [if_pos hio] at g0
    cases eo : ρ[i]? with
    | none => rw [eo] at hio; cases hio
    | some s =>
      cases s with
      | no => rw [eo] at hio; cases hio
      | sh d => rw [eo] at hio; cases hio
      | ow d0 =>
        obtain ⟨a, h1, h2, h3, h4⟩ := E.ow i _ eo
        refine ⟨.ref a, h1, V, ρ, E, Goal.bind g0 fun vs ds H1 V1 ρ1 st1 r1 g1 => ?_⟩
        cases eo1 : ρ1[i]? with
        | none => rw [eo1] at g1; exact False.elim g1
        | some s1 =>
          rw [eo1] at g1
          cases s1 with
          | no => exact False.elim g1
          | sh d => exact False.elim g1
          | ow dd =>
            obtain ⟨a', q1, q2, q3, q4⟩ := st1.env.ow i _ eo1
            have ea : a' = a := by rw [h1] at q1; exact (L2.V.ref.inj (Option.some.inj (Option.some.inj q1))).symm
            subst ea
            have g1 : Goal X.kw F σ ρ1 H1 V1 (Rep X.kw) (match m dd ds with
              | .ok (d, dd') => .ok (d, ρ1.set i (.ow dd'))
              | .exc c => .exc c
              | .bad => .bad) Q := g1
            have len : ∀ (h : m dd ds ≠ .bad), (L2.V.ref a' :: vs).length = ps.length := fun h => by rw [List.length_cons, r1.length]; exact G5 dd ds h
            cases em : m dd ds with
            | ok pr =>
              obtain ⟨d, dd'⟩ := pr
              rw [em] at g1
              refine ⟨len (by rw [em]; exact fun z => nomatch z), a', vs, V1, dd, ds, st1.env.tabs, rfl, st1.env.sub, q2, q4, r1, ?_⟩
              rw [em]
              exact fun v H' V' x va ho r => g1 v H' V' (st1.env.lend eo1 q1 x va ho) r
            | exc c =>
              rw [em] at g1
              refine ⟨len (by rw [em]; exact fun z => nomatch z), a', vs, V1, dd, ds, st1.env.tabs, rfl, st1.env.sub, q2, q4, r1, ?_⟩
              rw [em]
              exact fun H' V' x => ⟨rfl, g1 H' V' (st1.env.lendX eo1 q1 x)⟩
            | bad => rw [em] at g1; exact False.elim g1
  · rw [if_neg hio] at g0
    exact False.elim g0
end
end DL
set_option Elab.async false
set_option linter.all false
set_option maxRecDepth 100000
set_option maxHeartbeats 1000000
namespace DL
open PySem PySem.Spec PyProof.Rows L2
variable [TabCtx]
def demSl : Sl → Sl
  | .ow d => .sh d
  | s => s
/-- true: slot 0 (a lent thing) stays own -/
def demR : Bool → Rho → Rho
  | false, ρ => ρ.map demSl
  | true, [] => []
  | true, s :: ρ => s :: ρ.map demSl
def immSl : Sl → Bool
  | .ow (.list ds) => immL ds
  | .no => true
  | _ => false
def backR : Bool → Rho → Rho → Option Rho
  | false, ρ, _ => some ρ
  | true, _ :: r, s :: _ => if immSl s = true then some (s :: r) else none
  | true, _, _ => none
def brw (b : Bool) (f : M PyData) : M PyData := fun ρ => match f (demR b ρ) with
  | .ok (d, ρ') => if imm d = true then (match backR b ρ ρ' with
    | some ρ'' => .ok (d, ρ'')
    | none => .bad) else .bad
  | .exc c => .exc c
  | .bad => .bad
theorem demR_len (b : Bool) (ρ : Rho) : (demR b ρ).length = ρ.length := by
  cases b with
  | false => exact List.length_map ..
  | true => cases ρ with
    | nil => rfl
    | cons s r => simp [demR]
theorem demR_ow {b : Bool} {ρ : Rho} {i : Nat} {d : PyData} (h : (demR b ρ)[i]? = some (.ow d)) : i = 0 ∧ b = true ∧ ρ[i]? = some (.ow d) := by
  have m : ∀ {r : Rho} {i : Nat}, (r.map demSl)[i]? ≠ some (.ow d) := fun {r i} h => by
    rw [List.getElem?_map] at h
    obtain ⟨s, _, h2⟩ := Option.map_eq_some_iff.mp h
    cases s <;> cases h2
  cases b with
  | false => exact absurd h m
  | true => cases ρ with
    | nil => cases h
    | cons s r =>
      cases i with
      | zero => exact ⟨rfl, rfl, h⟩
      | succ i => exact absurd (show (r.map demSl)[i]? = some (.ow d) from h) m
theorem demR_sh {b : Bool} {ρ : Rho} {i : Nat} {d : PyData} (h : (demR b ρ)[i]? = some (.sh d)) : ρ[i]? = some (.sh d) ∨ (ρ[i]? = some (.ow d) ∧ (b = true → i ≠ 0)) := by
  have m : ∀ {r : Rho} {i : Nat}, (r.map demSl)[i]? = some (.sh d) → r[i]? = some (.sh d) ∨ r[i]? = some (.ow d) := fun {r i} h => by
    rw [List.getElem?_map] at h
    obtain ⟨s, h1, h2⟩ := Option.map_eq_some_iff.mp h
    cases s with
    | no => cases h2
    | sh e => cases h2; exact .inl h1
    | ow e => cases h2; exact .inr h1
  cases b with
  | false => exact (m h).imp id fun q => ⟨q, fun z => nomatch z⟩
  | true => cases ρ with
    | nil => cases h
    | cons s r =>
      cases i with
      | zero => exact .inl h
      | succ i => exact (m (show (r.map demSl)[i]? = some (.sh d) from h)).imp id fun q => ⟨q, fun _ => Nat.succ_ne_zero i⟩
theorem demR_keep {ρ : Rho} {d : PyData} (h : ρ[0]? = some (.ow d)) : (demR true ρ)[0]? = some (.ow d) := by
  cases ρ with
  | nil => cases h
  | cons s r => exact h
open Classical in
/-- what is seen if own things are -/
noncomputable def shown (P : Addr → Prop) (V H : Hp) : Hp := fun c => if P c then H c else V c
open Classical in
noncomputable def veiled (P : Addr → Prop) (V : Hp) : Hp := fun c => if P c then none else V c
section
variable {K : KW} {F : Fr} {σ : St} {ρ ρ' ρ'' : Rho} {H V H' V' : Hp}
theorem shown_p {P : Addr → Prop} {c : Addr} (h : P c) : shown P V H c = H c := by unfold shown; rw [if_pos h]
theorem shown_n {P : Addr → Prop} {c : Addr} (h : ¬ P c) : shown P V H c = V c := by unfold shown; rw [if_neg h]
theorem veiled_p {P : Addr → Prop} {c : Addr} (h : P c) : veiled P V c = none := by unfold veiled; rw [if_pos h]
theorem veiled_n {P : Addr → Prop} {c : Addr} (h : ¬ P c) : veiled P V c = V c := by unfold veiled; rw [if_neg h]
def Let (σ : St) (ρ : Rho) (b : Bool) (c : Addr) : Prop := IsOwn σ ρ c ∧ ¬ IsOwn σ (demR b ρ) c
theorem EnvR.own_at (E : EnvR K F H V σ ρ) {c : Addr} (h : IsOwn σ ρ c) : V c = none ∧ F.H0 c = none ∧ ∃ o, H c = some o ∧ (∀ xs, o ≠ .tup xs) ∧ (∀ u xs, o ≠ .frz u (.tup xs)) ∧ Plain o := by
  obtain ⟨i, d, h1, h2⟩ := h
  obtain ⟨a, q1, q2, q3, q4⟩ := E.ow i d h1
  rw [h2] at q1
  cases q1
  exact ⟨q2, q3, q4.there⟩
theorem EnvR.let_at (E : EnvR K F H V σ ρ) {b : Bool} {i : Nat} {d : PyData} {a : Addr} (h : ρ[i]? = some (.ow d)) (h2 : σ[i]? = some (some (.ref a))) (hb : b = true → i ≠ 0) : Let σ ρ b a := by
  refine ⟨⟨i, d, h, h2⟩, fun ⟨j, e, q1, q2⟩ => ?_⟩
  obtain ⟨rfl, hb', q3⟩ := demR_ow q1
  exact hb hb' (E.dis i 0 a d e h q3 h2 q2)
theorem EnvR.dem (E : EnvR K F H V σ ρ) (b : Bool) : EnvR K F H (shown (Let σ ρ b) V H) σ (demR b ρ) := by
  have sv : Same V (shown (Let σ ρ b) V H) := fun c o e => by
    rw [shown_n (fun h => by rw [(E.own_at h.1).1] at e; cases e)]; exact e
  refine ⟨by rw [demR_len]; exact E.len, ⟨E.ext.h, E.ext.v.trans sv, fun c o e => ?_, fun c h1 h2 => ?_, E.ext.th, E.ext.t⟩, fun i d h => ?_, fun i d h => ?_, fun i j a d e h1 h2 h3 h4 => ?_, E.lent, E.tab⟩
  · by_cases h : Let σ ρ b c
    · rw [shown_p h] at e; exact e
    · rw [shown_n h] at e; exact E.sub c o e
  · rw [shown_n (fun h => h2 (E.own_at h.1).2.1)]; exact E.ext.f c h1 h2
  · rcases demR_sh h with q | ⟨q, hb⟩
    · obtain ⟨v, w1, w2⟩ := E.sh i d q
      exact ⟨v, w1, w2.mono sv⟩
    · obtain ⟨a, w1, w2, w3, w4⟩ := E.ow i d q
      refine ⟨.ref a, w1, ?_⟩
      have el : shown (Let σ ρ b) V H a = H a := shown_p (E.let_at q w1 hb)
      cases d with
      | list ds => obtain ⟨vs, e, r⟩ := w4; exact .lst (el.trans e) (r.mono sv)
      | dict ps =>
        rcases w4 with ⟨kvs, e, r, n⟩ | ⟨kvs, ep, e, r⟩
        · exact .dk (el.trans e) (r.mono sv) n
        · exact .dt (el.trans e) (r.mono sv)
      | _ => exact w4.elim
  · obtain ⟨rfl, hb, q⟩ := demR_ow h
    obtain ⟨a, w1, w2, w3, w4⟩ := E.ow 0 d q
    exact ⟨a, w1, by rw [shown_n (fun z => z.2 ⟨0, d, h, w1⟩)]; exact w2, w3, w4.mono sv fun _ e _ => e⟩
  · exact E.dis i j a d e (demR_ow h1).2.2 (demR_ow h2).2.2 h3 h4
theorem immL_mono {K : KW} {V V' H : Hp} {a : Addr} {s : Sl} {d : PyData} (e : s = .ow d) (h : immSl s = true) (o : OwnAt K V H a d) (t : SameT V V') : OwnAt K V' H a d := by
  subst e
  cases d with
  | list ds => obtain ⟨vs, e, r⟩ := o; exact ⟨vs, e, r.imm t h⟩
  | _ => cases h
theorem EnvR.back (E : EnvR K F H V σ ρ) {b : Bool} (st : Stp K F σ (demR b ρ) ρ' H (shown (Let σ ρ b) V H) H' V') (hb : backR b ρ ρ' = some ρ'') :
    Stp K F σ ρ ρ'' H V H' (veiled (Let σ ρ b) V') ∧ SameT V' (veiled (Let σ ρ b) V') := by
  have sT : SameT V' (veiled (Let σ ρ b) V') := by
    have no : ∀ c, Let σ ρ b c → ∃ o, V' c = some o ∧ (∀ xs, o ≠ .tup xs) ∧ ∀ u xs, o ≠ .frz u (.tup xs) := fun c h => by
      obtain ⟨_, _, o, q1, q2, q3, _⟩ := E.own_at h.1
      exact ⟨o, st.v c o (by rw [shown_p h]; exact q1), q2, q3⟩
    refine ⟨fun c xs e => ?_, fun c u xs e => ?_⟩
    · rw [veiled_n (fun h => by obtain ⟨o, q1, q2, _⟩ := no c h; rw [q1] at e; exact q2 xs (Option.some.inj e))]; exact e
    · rw [veiled_n (fun h => by obtain ⟨o, q1, _, q2⟩ := no c h; rw [q1] at e; exact q2 u xs (Option.some.inj e))]; exact e
  have sv : Same V (veiled (Let σ ρ b) V') := fun c o e => by
    have n : ¬ Let σ ρ b c := fun h => by rw [(E.own_at h.1).1] at e; cases e
    rw [veiled_n n]
    exact st.v c o (by rw [shown_n n]; exact e)
  have kp : ∀ c o, H c = some o → nT o → ¬ IsOwn σ (demR b ρ) c → H' c = some o := st.keep
  have od : ∀ {c}, IsOwn σ (demR b ρ) c → IsOwn σ ρ c := fun {c} ⟨i, d, h1, h2⟩ => ⟨i, d, (demR_ow h1).2.2, h2⟩
  -- the slots behind
  have sl : ∀ {i : Nat} {t : Sl}, ρ''[i]? = some t → (ρ[i]? = some t ∧ (b = true → i ≠ 0)) ∨ (i = 0 ∧ b = true ∧ ρ'[0]? = some t ∧ immSl t = true) := fun {i t} h => by
    cases b with
    | false =>
      cases hb
      exact .inl ⟨h, fun z => nomatch z⟩
    | true =>
      cases ρ with
      | nil => cases ρ' <;> cases hb
      | cons s r =>
        cases ρ' with
        | nil => cases hb
        | cons s' r' =>
          have hb : (if immSl s' = true then some (s' :: r) else none) = some ρ'' := hb
          by_cases hi : immSl s' = true
          · rw [if_pos hi] at hb
            cases hb
            cases i with
            | zero =>
              have e : s' = t := Option.some.inj h
              subst e
              exact .inr ⟨rfl, rfl, rfl, hi⟩
            | succ i => exact .inl ⟨h, fun _ => Nat.succ_ne_zero i⟩
          · rw [if_neg hi] at hb; cases hb
  have len : ρ''.length = ρ.length := by
    cases b with
    | false => cases hb; rfl
    | true =>
      cases ρ with
      | nil => cases ρ' <;> cases hb
      | cons s r =>
        cases ρ' with
        | nil => cases hb
        | cons s' r' =>
          have hb : (if immSl s' = true then some (s' :: r) else none) = some ρ'' := hb
          by_cases hi : immSl s' = true
          · rw [if_pos hi] at hb; cases hb; rfl
          · rw [if_neg hi] at hb; cases hb
  have ow0 : ∀ {d : PyData}, ρ'[0]? = some (.ow d) → ∃ e, ρ[0]? = some (.ow e) := fun {d} h => by
    obtain ⟨a, w1, _⟩ := st.env.ow 0 d h
    obtain ⟨j, e, q1, q2⟩ := st.own a ⟨0, d, h, w1⟩
    obtain ⟨rfl, _, q3⟩ := demR_ow q1
    exact ⟨e, q3⟩
  have owf : ∀ {i : Nat} {d : PyData}, ρ''[i]? = some (.ow d) → ∃ e, ρ[i]? = some (.ow e) := fun {i d} h => by
    rcases sl h with ⟨q, _⟩ | ⟨rfl, _, q, _⟩
    · exact ⟨d, q⟩
    · exact ow0 q
  refine ⟨⟨⟨by rw [len]; exact E.len, ⟨st.env.ext.h, E.ext.v.trans sv, fun c o e => ?_, fun c h1 h2 => ?_, st.env.ext.th, st.env.ext.t⟩, fun i d h => ?_, fun i d h => ?_, fun i j a d e h1 h2 h3 h4 => ?_, E.lent, E.tab⟩, sv, fun c o e nt n => kp c o e nt fun z => n (od z), fun c h => ?_, fun i d h => ?_, fun c h1 h2 => ?_, st.th⟩, sT⟩
  · by_cases h : Let σ ρ b c
    · rw [veiled_p h] at e; cases e
    · rw [veiled_n h] at e; exact st.env.ext.s c o e
  · by_cases h : Let σ ρ b c
    · exact veiled_p h
    · rw [veiled_n h]; exact st.env.ext.f c h1 h2
  · rcases sl h with ⟨q, _⟩ | ⟨_, _, _, q⟩
    · obtain ⟨v, w1, w2⟩ := E.sh i d q
      exact ⟨v, w1, w2.mono sv⟩
    · cases q
  · rcases sl h with ⟨q, hb'⟩ | ⟨rfl, hb', q, hi⟩
    · obtain ⟨a, w1, w2, w3, w4⟩ := E.ow i d q
      have la := E.let_at q w1 hb'
      exact ⟨a, w1, veiled_p la, w3, w4.mono sv fun o e nt => kp a o e nt la.2⟩
    · obtain ⟨a, w1, w2, w3, w4⟩ := st.env.ow 0 d q
      obtain ⟨e, q2⟩ := ow0 q
      have n : ¬ Let σ ρ b a := fun h => h.2 (by subst hb'; exact ⟨0, e, demR_keep q2, w1⟩)
      exact ⟨a, w1, by rw [veiled_n n]; exact w2, w3, immL_mono rfl hi w4 sT⟩
  · obtain ⟨e1, q1⟩ := owf h1
    obtain ⟨e2, q2⟩ := owf h2
    exact E.dis i j a e1 e2 q1 q2 h3 h4
  · obtain ⟨i, d, h1, h2⟩ := h
    obtain ⟨e, q⟩ := owf h1
    exact ⟨i, e, q, h2⟩
  · rcases sl h with ⟨q, _⟩ | ⟨_, _, _, q⟩
    · exact q
    · cases q
  · by_cases h : Let σ ρ b c
    · exact veiled_p h
    · rw [veiled_n h]; exact st.f c (by rw [shown_n h]; exact h1) h2
end
section
variable {X : Cx} {F : Fr} {e : Expr} {fa : M PyData} {pos : Pos}
theorem pm_brw (b : Bool) (h : PM X F e fa) : PM X F e (brw b fa) := by
  refine PE.imp h fun σ H Q ⟨V, ρ, E, g⟩ => ⟨shown (Let σ ρ b) V H, demR b ρ, E.dem b, ?_⟩
  have g : Goal X.kw F σ ρ H V (Rep X.kw) (match fa (demR b ρ) with
    | .ok (d, ρ') => if imm d = true then (match backR b ρ ρ' with
      | some ρ'' => .ok (d, ρ'')
      | none => .bad) else .bad
    | .exc c => .exc c
    | .bad => .bad) Q := g
  cases ef : fa (demR b ρ) with
  | exc c => rw [ef] at g; exact g
  | bad => rw [ef] at g; exact g
  | ok pr =>
    obtain ⟨d, ρ'⟩ := pr
    rw [ef] at g
    have g : Goal X.kw F σ ρ H V (Rep X.kw) (if imm d = true then (match backR b ρ ρ' with
      | some ρ'' => .ok (d, ρ'')
      | none => .bad) else .bad) Q := g
    by_cases hi : imm d = true
    · rw [if_pos hi] at g
      intro v H' V' st r
      cases eb : backR b ρ ρ' with
      | none => rw [eb] at g; exact False.elim g
      | some ρ'' =>
        rw [eb] at g
        obtain ⟨s1, s2⟩ := E.back st eb
        exact g v H' _ s1 (r.imm s2 hi)
    · rw [if_neg hi] at g
      exact False.elim g
/-- a statement that lets own things go -/
def demO (b : Bool) (f : SM) : SM := fun ρ => f (demR b ρ)
theorem pms_dem (b : Bool) {st : Stmt} {f : SM} (h : PMS X F st f) : PMS X F st (demO b f) := by
  refine PS.imp h fun D σ H ⟨V, ρ, E, g⟩ => ⟨shown (Let σ ρ b) V H, demR b ρ, E.dem b, GoalS.mono (fun c o e => ?_) g⟩
  rw [shown_n (fun h => by rw [(E.own_at h.1).1] at e; cases e)]
  exact e
end
end DL
set_option Elab.async false
set_option linter.all false
set_option maxRecDepth 100000
set_option maxHeartbeats 1000000
namespace SrtQ
open PySem PyProof.Rows Srt
open SrtO hiding Str
def ltS (a b : Str) : Bool := decide (a.cps.toList < b.cps.toList)
def lexS (p q : Str × Int) : Bool := if p.1 = q.1 then decide (p.2 < q.2) else ltS p.1 q.1
theorem str_ext {a b : Str} (h : a.cps.toList = b.cps.toList) : a = b := by
  obtain ⟨a⟩ := a
  obtain ⟨b⟩ := b
  have h : a = b := by
    obtain ⟨a⟩ := a
    obtain ⟨b⟩ := b
    exact congrArg Array.mk h
  rw [h]
theorem ltS_irrefl (a : Str) : ltS a a = false := decide_eq_false (List.lt_irrefl _)
theorem ltS_asym {a b : Str} (h : ltS a b = true) : ltS b a = false := decide_eq_false (List.lt_asymm (of_decide_eq_true h))
theorem ltS_tri {a b : Str} (h1 : ltS a b = false) (h2 : ltS b a = false) : a = b := by
  have h1 := of_decide_eq_false h1
  have h2 := of_decide_eq_false h2
  exact str_ext (List.le_antisymm (List.not_lt.mp h2) (List.not_lt.mp h1))
theorem ltS_trans {a b c : Str} (h1 : ltS a b = true) (h2 : ltS b c = true) : ltS a c = true := decide_eq_true (List.lt_trans (of_decide_eq_true h1) (of_decide_eq_true h2))
theorem lexS_asym {p q : Str × Int} (h : lexS p q = true) : lexS q p = false := by
  unfold lexS at *
  by_cases e : p.1 = q.1
  · rw [if_pos e] at h
    rw [if_pos e.symm]
    have := of_decide_eq_true h
    exact decide_eq_false (by omega)
  · rw [if_neg e] at h
    rw [if_neg (fun z => e z.symm)]
    exact ltS_asym h
theorem lexS_tri {p q : Str × Int} (h1 : lexS p q = false) (h2 : lexS q p = false) : p = q := by
  unfold lexS at *
  by_cases e : p.1 = q.1
  · rw [if_pos e] at h1
    rw [if_pos e.symm] at h2
    have := of_decide_eq_false h1
    have := of_decide_eq_false h2
    exact Prod.ext e (by omega)
  · rw [if_neg e] at h1
    rw [if_neg (fun z => e z.symm)] at h2
    exact absurd (ltS_tri h1 h2) e
theorem lexS_trans {p q r : Str × Int} (h1 : lexS p q = true) (h2 : lexS q r = true) : lexS p r = true := by
  unfold lexS at *
  by_cases e : p.1 = q.1
  · rw [if_pos e] at h1
    by_cases e2 : q.1 = r.1
    · rw [if_pos e2] at h2
      rw [if_pos (e.trans e2)]
      have := of_decide_eq_true h1
      have := of_decide_eq_true h2
      exact decide_eq_true (by omega)
    · rw [if_neg e2] at h2
      rw [if_neg (fun z => e2 (e.symm.trans z)), e]
      exact h2
  · rw [if_neg e] at h1
    by_cases e2 : q.1 = r.1
    · rw [if_neg (fun z => e (z.trans e2.symm)), ← e2]
      exact h1
    · rw [if_neg e2] at h2
      have h3 := ltS_trans h1 h2
      by_cases e3 : p.1 = r.1
      · rw [e3] at h3; rw [ltS_irrefl] at h3; cases h3
      · rw [if_neg e3]; exact h3
theorem swo_lexS' : Swo lexS := by
  refine ⟨fun x y h => lexS_asym h, fun x y z h1 h2 => ?_⟩
  rcases bcase (lexS z x) with h | h
  · rcases bcase (lexS x y) with q | q
    · have := lexS_trans h q
      rw [this] at h2; cases h2
    · have e := lexS_tri q h1
      subst e
      exact h2
  · exact h
theorem swo_lexS {α : Type} (k : α → Str × Int) : Swo fun v u => lexS (k v) (k u) := ⟨fun x y h => swo_lexS'.asym _ _ h, fun x y z h1 h2 => swo_lexS'.tr _ _ _ h1 h2⟩
section
variable {prog : Program} {w : World} {A : Around} {E : Value → Shared → Prop} {s : Shared}
/-- v is a tuple of a text and an int -/
def IsSI (h : Heap) (v : Value) (x : Str) (y : Int) : Prop := ∃ a o t u n, v = .ref a ∧ h.get? a = some o ∧ o.cls = .type "tuple" ∧ o.data = .seq #[.str x t, .int y u] n
theorem IsSI.keeps {h h' : Heap} {v : Value} {x : Str} {y : Int} (p : IsSI h v x y) (k : ∀ b o, h.get? b = some o → o.cls = .type "tuple" → h'.get? b = some o) : IsSI h' v x y := by
  obtain ⟨a, o, t, u, n, e, ho, hc, hd⟩ := p
  exact ⟨a, o, t, u, n, e, k _ _ ho hc, hc, hd⟩
theorem si_cmp {vs : List Value} {k : Value → Str × Int} (hp : ∀ v ∈ vs, IsSI s.heap v (k v).1 (k v).2) : Cmp prog w A s (tuples' true) (fun p => p.1 ∈ vs) (lt2 fun v u => lexS (k v) (k u)) := by
  intro p q hm hm'
  have h1 := hp _ hm
  have h2 := hp _ hm'
  show wpAny (model prog w) A (keyLt' (tuples' true) p.1 q.1) (fun r s' => s' = s ∧ r = lexS (k p.1) (k q.1)) (fun _ _ => False) s
  unfold lexS
  generalize (k p.1).1 = x at h1 ⊢
  generalize (k p.1).2 = y at h1 ⊢
  generalize (k q.1).1 = x' at h2 ⊢
  generalize (k q.1).2 = y' at h2 ⊢
  obtain ⟨a, o, t, u, n, e, ho, hc, hd⟩ := h1
  obtain ⟨a', o', t', u', n', e', ho', hc', hd'⟩ := h2
  rw [e, e']
  refine PySem.W.kat_lt ho hd ho' hd' ?_
  show PySem.W.KatLex prog w A true (decide (2 < 2)) _ [(.str x t, .str x' t'), (.int y u, .int y' u')] 0 s
  refine PySem.W.kat_cons (SeqAt.EqAt.str_str x t x' t' prog w _ _ ?_)
  refine PySem.W.kat_go (fun e1 => ?_) (fun e1 => ?_)
  · have ex : x = x' := by simpa using e1
    refine PySem.W.kat_yes (PySem.W.kat_cons (SeqAt.EqAt.int_int y u y' u' prog w _ _ ?_))
    refine PySem.W.kat_go (fun e2 => ?_) (fun e2 => ?_)
    · have ey : y = y' := by simpa using e2
      have e3 : (if x = x' then decide (y < y') else ltS x x') = false := by
        rw [if_pos ex, ey]
        exact decide_eq_false (Int.lt_irrefl _)
      exact PySem.W.kat_yes (PySem.W.kat_nil ⟨rfl, e3.symm⟩)
    · have e3 : (if x = x' then decide (y < y') else ltS x x') = decide (y < y') := if_pos ex
      refine PySem.W.kat_no (PySem.W.kat_one _ _ (PyProof.Rows.lt_int ?_))
      exact (show s = s ∧ decide (y < y') = (if x = x' then decide (y < y') else ltS x x') from ⟨rfl, e3.symm⟩)
  · have ex : ¬ x = x' := by simpa using e1
    have e3 : (if x = x' then decide (y < y') else ltS x x') = ltS x x' := if_neg ex
    exact PySem.W.kat_no (oneLt_str ⟨rfl, e3.symm⟩)
theorem si_firsts {h : Heap} : ∀ {vs : List Value}, (∀ v ∈ vs, ∃ x y, IsSI h v x y) → ∃ fs : List Value, PySem.W.KatTups h vs fs ∧ fs.length = vs.length ∧ ∀ f ∈ fs, ∃ x t, f = Value.str x t
  | [], _ => ⟨[], PySem.W.KatTups.nil, rfl, fun _ hm => by simp at hm⟩
  | v :: vs, hp => by
    obtain ⟨fs, h1, h2, h3⟩ := si_firsts (vs := vs) fun v' hm => hp v' (List.mem_cons_of_mem _ hm)
    obtain ⟨x, y, a, o, t, u, n, e, ho, hc, hd⟩ := hp v (List.mem_cons_self ..)
    subst e
    refine ⟨.str x t :: fs, PySem.W.KatTups.cons ho hc hd rfl h1, by rw [List.length_cons, List.length_cons, h2], fun f hm => ?_⟩
    rcases List.mem_cons.mp hm with rfl | hm
    · exact ⟨x, t, rfl⟩
    · exact h3 f hm
theorem si_sortable {a : Addr} {vs : List Value} {k : Value → Str × Int} (h0 : 0 < vs.length) (hp : ∀ v ∈ vs, IsSI s.heap v (k v).1 (k v).2) (ha : ∀ o, s.heap.get? a = some o → o.cls ≠ .type "tuple") : SortableO prog w A s a vs fun v u => lexS (k v) (k u) := by
  intro h' keep
  have hp' : ∀ v ∈ vs, IsSI h' v (k v).1 (k v).2 := fun v hm => (hp v hm).keeps fun b o e c => keep b o (fun z => by subst z; exact ha o e c) e
  obtain ⟨fs, h1, h2, h3⟩ := si_firsts fun v hm => ⟨_, _, hp' v hm⟩
  refine ⟨tuples' true, fun Q E hq => ?_, si_cmp hp'⟩
  refine PySem.W.kat_kind (T := .type "str") h1 (by omega) (fun f hm => ?_) (by rfl) ?_
  · obtain ⟨x, t, rfl⟩ := h3 f hm
    exact PySem.W.Looks.now
  · have e : (Value.type "str" != Value.type "tuple") = true := by first | decide +kernel | rfl | decide
    rw [e]
    exact hq
/-- sorted of a list or a tuple of pairs -/
theorem sorted_sq {l : Addr} {T : String} {o : Obj} {vs : List Value} {n : Nat} {k : Value → Str × Int} {Q : Value → Shared → Prop} (hT : T = "list" ∨ T = "tuple") (ho : s.heap.get? l = some o) (hc : o.cls = .type T) (hd : o.data = .seq vs.toArray n) (hz : vs.length ≤ sizeLine) (hp : ∀ v ∈ vs, IsSI s.heap v (k v).1 (k v).2)
    (fin : ∀ (h0 h1 : Heap) (d : Addr) (out : List Value), (∀ b o, s.heap.get? b = some o → h0.get? b = some o) → Srtd (fun v u => lexS (k v) (k u)) out → Stb (fun v u => lexS (k v) (k u)) out vs → (∀ b o, h0.get? b = some o → h1.get? b = some o) → h0.objs.size ≤ d → (∃ n, h1.get? d = some (seqObj "list" out.toArray n)) → Q (.ref d) { s with heap := h1 }) :
    wpAny (model prog w) A (call (.builtin "sorted") [.ref l]) Q E s := by
  refine Calls.call_function_entry kind_sorted plain_sorted entry_sorted (args_sorted1 (.ref l)) ?_
  unfold Builtin.«sorted»
  refine wpAny_bind (m := checkCount "sorted" 1 1 _) (wpAny_pure (wpAny_bind (wpAny_collect_seq l hT ho hc hd (fun h0 k0 => ?_) (by rw [List.size_toArray]; exact hz))))
  show wpAny _ _ _ _ _ { s with heap := h0 }
  have e0 : vs.toArray.toList = vs := by simp
  rw [e0]
  refine wpAny_bind (wpAny_newList (s := { s with heap := h0 }) ?_ hz)
  have hat : (h0.push (seqObj "list" vs.toArray 0)).get? h0.objs.size = some (seqObj "list" vs.toArray 0) := Heap.get?_push_size _ rfl
  have k1 : ∀ b o, h0.get? b = some o → b ≠ h0.objs.size ∧ (h0.push (seqObj "list" vs.toArray 0)).get? b = some o := fun b o q => ⟨Nat.ne_of_lt (Heap.lt_size q), Heap.get?_push_of_some _ q⟩
  show wpAny _ _ _ _ _ { s with heap := h0.push (seqObj "list" vs.toArray 0) }
  refine wpAny_bind (wpAny_holding (wpAny_call_entry slot_list_sort ⟨_, hat, rfl⟩ entry_list_sort (list_sort_ord (s := { s with heap := h0.push (seqObj "list" vs.toArray 0) }) (swo_lexS k) hat hz (fun h2 => ?_) fun out hs hb => ⟨_, rfl, ?_⟩) (args_list_sort _)))
  · refine si_sortable (s := { s with heap := h0.push (seqObj "list" vs.toArray 0) }) (by omega) (fun v hm => (hp v hm).keeps fun b o e _ => (k1 b o (k0 b o e)).2) fun o e => ?_
    have e' : some o = some (seqObj "list" vs.toArray 0) := e.symm.trans hat
    cases e'
    exact fun c => absurd (Value.type.inj c) (by decide)
  · refine wpAny_pure ⟨_, rfl, fin h0 _ _ out k0 hs hb (fun b o e => ?_) (Nat.le_refl _) (sortedHeap_at (n := 0) hat)⟩
    obtain ⟨z1, z2⟩ := k1 b o e
    rw [sortedHeap_old z1 (by rw [size_push']; exact Nat.lt_succ_of_lt (Heap.lt_size e))]
    exact z2
theorem sorted_si {l : Addr} {vs : List Value} {k : Value → Str × Int} {Q : Value → Shared → Prop} (hl : s.heap.IsList l vs.toArray) (hz : vs.length ≤ sizeLine) (hp : ∀ v ∈ vs, IsSI s.heap v (k v).1 (k v).2)
    (h : ∀ (h' : Heap) (d : Addr) (out : List Value), Srtd (fun v u => lexS (k v) (k u)) out → Stb (fun v u => lexS (k v) (k u)) out vs → (∀ b o, s.heap.get? b = some o → h'.get? b = some o) → s.heap.objs.size ≤ d → (∃ n, h'.get? d = some (seqObj "list" out.toArray n)) → Q (.ref d) { s with heap := h' }) :
    wpAny (model prog w) A (call (.builtin "sorted") [.ref l]) Q E s := by
  refine sorted_ord (swo_lexS k) hl hz (fun h2 h₁ a ha kk => ?_) fun out hs hb => ?_
  · refine si_sortable (s := { s with heap := h₁ }) (by omega) (fun v hm => (hp v hm).keeps fun b o e _ => (kk b o e).2) fun o e => ?_
    have e' : some o = some (seqObj "list" vs.toArray 0) := e.symm.trans ha
    cases e'
    intro c
    exact absurd (Value.type.inj c) (by decide)
  · exact h _ _ out hs hb (fun b o e => sortedAll_old e) (Nat.le_succ _) (sortedAll_at s.heap vs out.toArray)
end
/-- insertion -/
def ins {α : Type} (lt : α → α → Bool) (x : α) : List α → List α
  | [] => [x]
  | y :: l => if lt x y = true then x :: y :: l else y :: ins lt x l
def isort {α : Type} (lt : α → α → Bool) : List α → List α
  | [] => []
  | x :: l => ins lt x (isort lt l)
theorem ins_perm {α : Type} {lt : α → α → Bool} {x : α} : ∀ l : List α, (ins lt x l).Perm (x :: l)
  | [] => .refl _
  | y :: l => by
    unfold ins
    by_cases h : lt x y = true
    · rw [if_pos h]
    · rw [if_neg h]
      exact ((ins_perm l).cons y).trans (.swap ..)
theorem isort_perm {α : Type} {lt : α → α → Bool} : ∀ l : List α, (isort lt l).Perm l
  | [] => .refl _
  | x :: l => (ins_perm _).trans ((isort_perm l).cons x)
theorem ins_srtd {α : Type} {lt : α → α → Bool} (O : Swo lt) {x : α} : ∀ {l : List α}, Srtd lt l → Srtd lt (ins lt x l)
  | [], _ => srtd_one x
  | y :: l, h => by
    unfold ins
    by_cases q : lt x y = true
    · rw [if_pos q]
      exact List.pairwise_cons.mpr ⟨fun z hz => O.asym _ _ (O.lt_all h q z hz), h⟩
    · rw [if_neg q]
      have hq : lt x y = false := by cases e : lt x y; rfl; exact absurd e q
      refine List.pairwise_cons.mpr ⟨fun z hz => ?_, ins_srtd O (List.pairwise_cons.mp h).2⟩
      rcases List.mem_cons.mp ((ins_perm l).mem_iff.mp hz) with e | hz
      · rw [e]; exact hq
      · exact srtd_head h z hz
theorem isort_srtd {α : Type} {lt : α → α → Bool} (O : Swo lt) : ∀ l : List α, Srtd lt (isort lt l)
  | [] => List.Pairwise.nil
  | x :: l => ins_srtd O (isort_srtd O l)
theorem perm_uniq {α : Type} {lt : α → α → Bool} (O : Swo lt) (tri : ∀ x y, lt x y = false → lt y x = false → x = y) : ∀ {l m : List α}, Srtd lt l → Srtd lt m → l.Perm m → l = m
  | [], m, _, _, h => (List.Perm.eq_nil h.symm).symm
  | x :: l, [], _, _, h => absurd h.length_eq (by simp)
  | x :: l, y :: m, hl, hm, h => by
    have h1 : lt x y = false := by
      rcases List.mem_cons.mp (h.mem_iff.mp (List.mem_cons_self (a := x) (l := l))) with e | hx
      · rw [e]; exact O.refl y
      · exact srtd_head hm x hx
    have h2 : lt y x = false := by
      rcases List.mem_cons.mp (h.mem_iff.mpr (List.mem_cons_self (a := y) (l := m))) with e | hy
      · rw [e]; exact O.refl x
      · exact srtd_head hl y hy
    have e := tri x y h1 h2
    subst e
    rw [perm_uniq O tri (List.pairwise_cons.mp hl).2 (List.pairwise_cons.mp hm).2 h.cons_inv]
end SrtQ
namespace DL
open PySem PySem.Spec PyProof.Rows L2
variable [TabCtx]
/-- sorted of pairs of a text and an int -/
def rSortSI (K : KW) : List L2.V → Hp → VK → Prop := fun vs H Q => ∃ (a : Addr) (xs : List L2.V) (k : L2.V → Str × Int), vs = [V.ref a] ∧ SqL K H a xs ∧ (∀ x ∈ xs, ∃ t, x = V.ref t ∧ SqT K H t [.str (k x).1, .int (k x).2]) ∧
  ∀ ys p, SrtO.Srtd (fun x y => SrtQ.lexS (k x) (k y)) ys → ys.Perm xs → H p = none → Q (.ref p) (upd H p (.lst ys))
theorem cr_sortSI {X : Cx} : CallR X (.builtin "sorted") (rSortSI X.kw) := by
  intro pins s σ H vs us Q I r h
  obtain ⟨a, xs, k, rfl, hs, hx, q⟩ := h
  obtain ⟨its, rv, hl, hz⟩ := I.list hs
  obtain ⟨u, rfl, ru⟩ := vals1 r
  obtain rfl : u = Value.ref a := ru
  obtain ⟨e1, e2⟩ := refs_back rv fun x m => by
    obtain ⟨t, e, _⟩ := hx x m
    exact ⟨t, e⟩
  refine SrtQ.sorted_si (k := fun u => k (backV u)) hl.isList (by rw [← rv.length]; exact hz) (fun v hv => ?_) fun h' d out h1 h2 kp hd hn => ?_
  · obtain ⟨t, rfl⟩ := e2 v hv
    have hm : V.ref t ∈ xs := by rw [e1]; exact List.mem_map.mpr ⟨_, hv, rfl⟩
    obtain ⟨t', e, ht⟩ := hx _ hm
    cases e
    obtain ⟨its2, r2, ⟨o, ho, hc, n, hd⟩, _⟩ := I.tuple ht
    obtain ⟨u1, u2, rfl, ri, rj⟩ := vals2 r2
    obtain ⟨t1, rfl⟩ := ri
    obtain ⟨t2, rfl⟩ := rj
    exact ⟨t, o, t1, t2, n, rfl, ho, hc, hd⟩
  · have h3 : ∀ u ∈ out, ∃ a, u = Value.ref a := fun u hu => e2 u (h2.perm.mem_iff.mp hu)
    obtain ⟨n, hn⟩ := hn
    have hb : (out.map backV).Perm xs := by
      rw [e1]
      exact h2.perm.map backV
    refine ⟨.ref d, upd H d (.lst (out.map backV)), I.laid (t' := s.toks) kp hd ⟨?_, out, n, vals_back h3, hn⟩, rfl, q _ d (List.pairwise_map.mpr h1) hb (I.hok.fresh hd)⟩
    rw [hb.length_eq]
    exact hz
def rSortST (K : KW) : List L2.V → Hp → VK → Prop := fun vs H Q => ∃ (a : Addr) (xs : List L2.V) (k : L2.V → Str × Int), vs = [V.ref a] ∧ SqT K H a xs ∧ (∀ x ∈ xs, ∃ t, x = V.ref t ∧ SqT K H t [.str (k x).1, .int (k x).2]) ∧
  ∀ ys p, SrtO.Srtd (fun x y => SrtQ.lexS (k x) (k y)) ys → ys.Perm xs → H p = none → Q (.ref p) (upd H p (.lst ys))
theorem cr_sortST {X : Cx} : CallR X (.builtin "sorted") (rSortST X.kw) := by
  intro pins s σ H vs us Q I r h
  obtain ⟨a, xs, k, rfl, hs, hx, q⟩ := h
  obtain ⟨its, rv, ⟨o0, ho0, hc0, n0, hd0⟩, hz⟩ := I.tuple hs
  obtain ⟨u, rfl, ru⟩ := vals1 r
  obtain rfl : u = Value.ref a := ru
  obtain ⟨e1, e2⟩ := refs_back rv fun x m => by
    obtain ⟨t, e, _⟩ := hx x m
    exact ⟨t, e⟩
  refine SrtQ.sorted_sq (k := fun u => k (backV u)) (.inr rfl) ho0 hc0 hd0 (by rw [← rv.length]; exact hz) (fun v hv => ?_) fun h0 h' d out kp0 h1 h2 kp hd hn => ?_
  · obtain ⟨t, rfl⟩ := e2 v hv
    have hm : V.ref t ∈ xs := by rw [e1]; exact List.mem_map.mpr ⟨_, hv, rfl⟩
    obtain ⟨t', e, ht⟩ := hx _ hm
    cases e
    obtain ⟨its2, r2, ⟨o, ho, hc, n, hd⟩, _⟩ := I.tuple ht
    obtain ⟨u1, u2, rfl, ri, rj⟩ := vals2 r2
    obtain ⟨t1, rfl⟩ := ri
    obtain ⟨t2, rfl⟩ := rj
    exact ⟨t, o, t1, t2, n, rfl, ho, hc, hd⟩
  · have h3 : ∀ u ∈ out, ∃ a, u = Value.ref a := fun u hu => e2 u (h2.perm.mem_iff.mp hu)
    obtain ⟨n, hn⟩ := hn
    have hb : (out.map backV).Perm xs := by
      rw [e1]
      exact h2.perm.map backV
    have I0 : Inv X pins σ H { s with heap := h0, toks := s.toks } := I.kept kp0
    refine ⟨.ref d, upd H d (.lst (out.map backV)), I0.laid (t' := s.toks) kp hd ⟨?_, out, n, vals_back h3, hn⟩, rfl, q _ d (List.pairwise_map.mpr h1) hb (I0.hok.fresh hd)⟩
    rw [hb.length_eq]
    exact hz
def rSortAll (K : KW) : List L2.V → Hp → VK → Prop := fun vs H Q => rSortSI K vs H Q ∨ rSortST K vs H Q
theorem cr_sortAll {X : Cx} : CallR X (.builtin "sorted") (rSortAll X.kw) := by
  intro pins s σ H vs us Q I r h
  rcases h with h | h
  · exact cr_sortSI pins s σ H vs us Q I r h
  · exact cr_sortST pins s σ H vs us Q I r h
def siOf : PyData → Option (Str × Int)
  | .tuple [.str x, .int i] => some (x, i)
  | _ => none
def siD (p : Str × Int) : PyData := .tuple [.str p.1, .int p.2]
def gSorted : List PyData → Option PyData
  | [.list ds] => (ds.mapM siOf).map fun ks => .list ((SrtQ.isort SrtQ.lexS ks).map siD)
  | [.tuple ds] => (ds.mapM siOf).map fun ks => .list ((SrtQ.isort SrtQ.lexS ks).map siD)
  | _ => none
theorem siOf_some {d : PyData} {p : Str × Int} (h : siOf d = some p) : d = siD p := by
  unfold siOf at h
  split at h
  · cases h; rfl
  · cases h
theorem mapM_si : ∀ {ds : List PyData} {ks : List (Str × Int)}, ds.mapM siOf = some ks → ds = ks.map siD
  | [], ks, h => by simp at h; subst h; rfl
  | d :: ds, ks, h => by
    rw [List.mapM_cons] at h
    cases e : siOf d with
    | none => rw [e] at h; cases h
    | some p =>
      rw [e] at h
      cases e2 : ds.mapM siOf with
      | none => rw [e2] at h; cases h
      | some r =>
        rw [e2] at h
        have h : some (p :: r) = some ks := h
        cases h
        rw [siOf_some e, mapM_si e2]
        rfl
theorem rep_si {K : KW} {V : Hp} {x : L2.V} {p : Str × Int} (h : Rep K V x (siD p)) : ∃ t, x = .ref t ∧ V t = some (.tup [.str p.1, .int p.2]) := by
  cases h with
  | @tup a xs ds ha ra =>
    refine ⟨a, rfl, ?_⟩
    cases ra with
    | cons r1 r2 =>
      cases r2 with
      | cons r2 r3 =>
        cases r3
        cases r1
        cases r2
        exact ha
theorem siD_inj {p q : Str × Int} (h : siD p = siD q) : p = q := by
  unfold siD at h
  injection h with h
  injection h with h1 h2
  injection h1 with h1
  injection h2 with h2
  injection h2 with h2
  exact Prod.ext h1 h2
theorem rep_si_inj {K : KW} {V : Hp} {x : L2.V} {p q : Str × Int} (h : Rep K V x (siD p)) (h' : Rep K V x (siD q)) : p = q := by
  obtain ⟨t, e1, e2⟩ := rep_si h
  obtain ⟨t', e3, e4⟩ := rep_si h'
  rw [e1] at e3
  cases e3
  rw [e2] at e4
  injection e4 with e4
  injection e4 with e4
  injection e4 with e5 e6
  injection e5 with e5
  injection e6 with e6
  injection e6 with e6
  exact Prod.ext e5 e6
theorem repL_mem {K : KW} {V : Hp} : ∀ {ys : List L2.V} {ks : List (Str × Int)}, RepL K V ys (ks.map siD) → ∀ y ∈ ys, ∃ p, Rep K V y (siD p)
  | [], _, _, _, hy => by cases hy
  | y :: ys, [], h, _, _ => by cases h
  | y :: ys, p :: ks, h, z, hz => by
    cases h with
    | cons r1 r2 =>
      rcases List.mem_cons.mp hz with e | hz
      · rw [e]; exact ⟨p, r1⟩
      · exact repL_mem r2 z hz
theorem repL_keys {K : KW} {V : Hp} {k : L2.V → Str × Int} : ∀ {ys : List L2.V} {ks : List (Str × Int)}, RepL K V ys (ks.map siD) → (∀ y ∈ ys, ∀ p, Rep K V y (siD p) → k y = p) → ys.map k = ks
  | [], [], _, _ => rfl
  | [], _ :: _, h, _ => by cases h
  | _ :: _, [], h, _ => by cases h
  | y :: ys, p :: ks, h, hk => by
    cases h with
    | cons r1 r2 => rw [List.map_cons, hk y List.mem_cons_self p r1, repL_keys r2 fun z hz => hk z (List.mem_cons_of_mem _ hz)]
theorem keys_repL {K : KW} {V : Hp} {k : L2.V → Str × Int} : ∀ {ys : List L2.V}, (∀ y ∈ ys, Rep K V y (siD (k y))) → RepL K V ys ((ys.map k).map siD)
  | [], _ => .nil
  | y :: ys, h => .cons (h y List.mem_cons_self) (keys_repL fun z hz => h z (List.mem_cons_of_mem _ hz))
open Classical in
theorem siKey (K : KW) (V : Hp) : ∃ k : L2.V → Str × Int, ∀ v p, Rep K V v (siD p) → k v = p :=
  ⟨fun v => if h : ∃ p, Rep K V v (siD p) then Classical.choose h else (Str.empty, 0), fun v p h => by
    have hex : ∃ p, Rep K V v (siD p) := ⟨p, h⟩
    show (if h : ∃ p, Rep K V v (siD p) then Classical.choose h else (Str.empty, 0)) = p
    rw [dif_pos hex]
    exact rep_si_inj (Classical.choose_spec hex) h⟩
theorem cd_sorted {K : KW} : CallD K (rSortAll K) gSorted := by
  intro xs ds z H V Q s r e q
  cases r with
  | nil => cases e
  | cons r1 r2 =>
    cases r2 with
    | cons _ _ => cases r1 <;> cases e
    | nil =>
      cases r1 with
      | @lst a ys es ha ra =>
        have e : (es.mapM siOf).map (fun ks => PyData.list ((SrtQ.isort SrtQ.lexS ks).map siD)) = some z := e
        obtain ⟨ks, hk, rfl⟩ := Option.map_eq_some_iff.mp e
        have he := mapM_si hk
        subst he
        obtain ⟨k, kk⟩ := siKey K V
        have km : ∀ y ∈ ys, Rep K V y (siD (k y)) := fun y hy => by
          obtain ⟨p, hp⟩ := repL_mem ra y hy
          rw [kk y p hp]
          exact hp
        refine Or.inl ⟨a, ys, k, rfl, .inl (.inl (s _ _ ha)), fun y hy => ?_, fun out p h1 h2 hp => ?_⟩
        · obtain ⟨t, e1, e2⟩ := rep_si (km y hy)
          exact ⟨t, e1, .inl (.inl (s _ _ e2))⟩
        · have e1 : out.map k = SrtQ.isort SrtQ.lexS ks := by
            refine SrtQ.perm_uniq SrtQ.swo_lexS' (fun x y => SrtQ.lexS_tri) (List.pairwise_map.mpr h1) (SrtQ.isort_srtd SrtQ.swo_lexS' ks) ?_
            rw [← repL_keys (k := k) ra fun y _ p h => kk y p h]
            exact (h2.map k).trans (SrtQ.isort_perm _).symm
          rw [← e1] at q
          exact q _ _ _ (Ext.new s hp) (new_lst s hp (keys_repL fun y hy => km y (h2.mem_iff.mp hy)))
      | @tup a ys es ha ra =>
        have e : (es.mapM siOf).map (fun ks => PyData.list ((SrtQ.isort SrtQ.lexS ks).map siD)) = some z := e
        obtain ⟨ks, hk, rfl⟩ := Option.map_eq_some_iff.mp e
        have he := mapM_si hk
        subst he
        obtain ⟨k, kk⟩ := siKey K V
        have km : ∀ y ∈ ys, Rep K V y (siD (k y)) := fun y hy => by
          obtain ⟨p, hp⟩ := repL_mem ra y hy
          rw [kk y p hp]
          exact hp
        refine Or.inr ⟨a, ys, k, rfl, sqt s ha, fun y hy => ?_, fun out p h1 h2 hp => ?_⟩
        · obtain ⟨t, e1, e2⟩ := rep_si (km y hy)
          exact ⟨t, e1, .inl (.inl (s _ _ e2))⟩
        · have e1 : out.map k = SrtQ.isort SrtQ.lexS ks := by
            refine SrtQ.perm_uniq SrtQ.swo_lexS' (fun x y => SrtQ.lexS_tri) (List.pairwise_map.mpr h1) (SrtQ.isort_srtd SrtQ.swo_lexS' ks) ?_
            rw [← repL_keys (k := k) ra fun y _ p h => kk y p h]
            exact (h2.map k).trans (SrtQ.isort_perm _).symm
          rw [← e1] at q
          exact q _ _ _ (Ext.new s hp) (new_lst s hp (keys_repL fun y hy => km y (h2.mem_iff.mp hy)))
      | _ => cases e
def flatLt : PyData → PyData → Option Bool
  | .int i, .int j => some (decide (i < j))
  | .str x, .str y => some (SrtQ.ltS x y)
  | _, _ => none
/-- lexical order of tuples of flat data -/
def lexD : List PyData → List PyData → Option Bool
  | [], [] => some false
  | [], _ :: _ => some true
  | _ :: _, [] => some false
  | x :: xs, y :: ys => (flatLt x y).bind fun b => (lexD xs ys).map fun c => if PyData.eqv x y = true then c else b
def gLt : PyData → PyData → Option PyData
  | .tuple xs, .tuple ys => (lexD xs ys).map .bool
  | x, y => (flatLt x y).map .bool
end DL
namespace DL
open PySem PySem.Spec PyProof.Rows L2
variable [TabCtx]
def fltV : L2.V → L2.V → Option Bool
  | .int i, .int j => some (decide (i < j))
  | .str x, .str y => some (SrtQ.ltS x y)
  | _, _ => none
def lexV : List L2.V → List L2.V → Option Bool
  | [], [] => some false
  | [], _ :: _ => some true
  | _ :: _, [] => some false
  | x :: xs, y :: ys => (fltV x y).bind fun b => (lexV xs ys).map fun c => if eqV x y = true then c else b
theorem lexV_cons {x y : L2.V} {xs ys : List L2.V} {b : Bool} (h : lexV (x :: xs) (y :: ys) = some b) : ∃ c d, fltV x y = some c ∧ lexV xs ys = some d ∧ b = if eqV x y = true then d else c := by
  have h : (fltV x y).bind (fun b => (lexV xs ys).map fun c => if eqV x y = true then c else b) = some b := h
  cases e1 : fltV x y with
  | none => rw [e1] at h; cases h
  | some c =>
    rw [e1] at h
    cases e2 : lexV xs ys with
    | none => rw [e2] at h; cases h
    | some d => rw [e2] at h; exact ⟨c, d, rfl, rfl, (Option.some.inj h).symm⟩
theorem lexV_flat : ∀ {xs ys : List L2.V} {b : Bool}, lexV xs ys = some b → ∀ (j : Nat) (x y : L2.V), xs[j]? = some x → ys[j]? = some y → ∃ c, fltV x y = some c
  | [], _, _, _, j, x, y, h1, _ => by simp at h1
  | _ :: _, [], _, _, j, x, y, _, h2 => by simp at h2
  | x :: xs, y :: ys, b, h, 0, u, v, h1, h2 => by
    cases h1; cases h2
    obtain ⟨c, d, e, _⟩ := lexV_cons h
    exact ⟨c, e⟩
  | x :: xs, y :: ys, b, h, j + 1, u, v, h1, h2 => by
    obtain ⟨c, d, _, e, _⟩ := lexV_cons h
    exact lexV_flat e j u v (by simpa using h1) (by simpa using h2)
theorem lexV_at {e r : Nat → Bool} {z : Bool} : ∀ {xs ys : List L2.V} {b : Bool} (i : Nat), lexV xs ys = some b → z = decide (xs.length < ys.length) → (∀ (j : Nat) (x y : L2.V), xs[j]? = some x → ys[j]? = some y → e (i + j) = eqV x y ∧ r (i + j) = (fltV x y).getD false) →
    Ob.lexAt e r z i (min xs.length ys.length) = b
  | [], [], b, i, h, hz, _ => by cases h; rw [hz]; rfl
  | [], _ :: _, b, i, h, hz, _ => by cases h; rw [hz]; simp [Ob.lexAt_zero]
  | _ :: _, [], b, i, h, hz, _ => by cases h; rw [hz]; simp [Ob.lexAt_zero]
  | x :: xs, y :: ys, b, i, h, hz, ht => by
    obtain ⟨c, d, h1, h2, rfl⟩ := lexV_cons h
    have m : min (x :: xs).length (y :: ys).length = min xs.length ys.length + 1 := by simp only [List.length_cons]; omega
    rw [m, Ob.lexAt_succ]
    obtain ⟨t1, t2⟩ := ht 0 x y rfl rfl
    rw [Nat.add_zero] at t1 t2
    rw [t1, t2, h1]
    by_cases q : eqV x y = true
    · rw [if_pos q, if_pos q]
      refine lexV_at (i + 1) h2 (by rw [hz]; simp) fun j u v hu hv => ?_
      have := ht (j + 1) u v (by simpa using hu) (by simpa using hv)
      rw [show i + 1 + j = i + (j + 1) by omega]
      exact this
    · rw [if_neg q, if_neg q]; rfl
theorem fltV_flat {x y : L2.V} {c : Bool} (h : fltV x y = some c) : flatV x = true ∧ flatV y = true := by
  cases x <;> cases y <;> first | exact ⟨rfl, rfl⟩ | cases h
theorem rc_flt {A : Around} {s : Shared} {x y : L2.V} {u v : Value} {c : Bool} (rx : RelV x u) (ry : RelV y v) (h : fltV x y = some c) : Ob.RcOp .Lt A s u v c := by
  cases x with
  | int i =>
    cases y with
    | int j =>
      cases h
      obtain ⟨t, rfl⟩ := rx
      obtain ⟨t', rfl⟩ := ry
      exact Ob.RcOp.lt_int _ _ _ _
    | _ => cases h
  | str i =>
    cases y with
    | str j =>
      cases h
      obtain ⟨t, rfl⟩ := rx
      obtain ⟨t', rfl⟩ := ry
      exact fun _ _ _ _ h => lt_str h
    | _ => cases h
  | _ => cases h
def rLtTD (K : KW) : R2 := fun x y H Q => ∃ (a b : Addr) (xs ys : List L2.V) (c : Bool), x = .ref a ∧ y = .ref b ∧ SqT K H a xs ∧ SqT K H b ys ∧ lexV xs ys = some c ∧ Q (.bl c) H
theorem op_ltTD {X : Cx} (hu : X.A.units < cLine) : OpR X (compareOp .Lt) (rLtTD X.kw) := by
  intro pins s σ H x y v u Q I rx ry h
  obtain ⟨a, b, xs, ys, c, rfl, rfl, ha, hb, hl, q⟩ := h
  cases rx
  cases ry
  obtain ⟨its, r1, p1, _⟩ := I.tuple ha
  obtain ⟨its2, r2, p2, _⟩ := I.tuple hb
  have at1 : ∀ j (h1 : j < its.toArray.size), ∃ x, xs[j]? = some x ∧ RelV x its.toArray[j] := fun j h1 => by
    have h1' : j < xs.length := by rw [r1.length]; simpa using h1
    obtain ⟨u, e1, e2⟩ := r1.get (List.getElem?_eq_getElem h1')
    have e3 : its.toArray[j] = u := by
      have : its[j]? = some its.toArray[j] := by simp
      rw [e1] at this
      exact (Option.some.inj this).symm
    exact ⟨_, List.getElem?_eq_getElem h1', by rw [e3]; exact e2⟩
  have at2 : ∀ j (h1 : j < its2.toArray.size), ∃ x, ys[j]? = some x ∧ RelV x its2.toArray[j] := fun j h1 => by
    have h1' : j < ys.length := by rw [r2.length]; simpa using h1
    obtain ⟨u, e1, e2⟩ := r2.get (List.getElem?_eq_getElem h1')
    have e3 : its2.toArray[j] = u := by
      have : its2[j]? = some its2.toArray[j] := by simp
      rw [e1] at this
      exact (Option.some.inj this).symm
    exact ⟨_, List.getElem?_eq_getElem h1', by rw [e3]; exact e2⟩
  have e1 : its.toArray.size = xs.length := by rw [List.size_toArray]; exact r1.length.symm
  have e2 : its2.toArray.size = ys.length := by rw [List.size_toArray]; exact r2.length.symm
  have R := Ob.RcOp.tuples_lt (A := X.A) (s := s) (e := fun j => eqV (xs.getD j .non) (ys.getD j .non)) (r := fun j => (fltV (xs.getD j .non) (ys.getD j .non)).getD false) p1 p2 hu (fun j h1 h2 => by
    obtain ⟨x, g1, r1⟩ := at1 j h1
    obtain ⟨y, g2, r2⟩ := at2 j h2
    obtain ⟨c, hc⟩ := lexV_flat hl j x y g1 g2
    obtain ⟨f1, f2⟩ := fltV_flat hc
    show SeqAt.EqAt _ _ _ _ (eqV (xs.getD j .non) (ys.getD j .non))
    rw [List.getD_eq_getElem?_getD, List.getD_eq_getElem?_getD, g1, g2]
    exact eqAt_V r1 r2 f1 f2) (fun j h1 h2 _ => by
    obtain ⟨x, g1, r1⟩ := at1 j h1
    obtain ⟨y, g2, r2⟩ := at2 j h2
    obtain ⟨c, hc⟩ := lexV_flat hl j x y g1 g2
    show Ob.RcOp .Lt _ _ _ _ ((fltV (xs.getD j .non) (ys.getD j .non)).getD false)
    rw [List.getD_eq_getElem?_getD, List.getD_eq_getElem?_getD, g1, g2]
    show Ob.RcOp .Lt _ _ _ _ ((fltV x y).getD false)
    rw [hc]
    exact rc_flt r1 r2 hc)
  rw [e1, e2, lexV_at 0 hl rfl (fun j x y h1 h2 => by
    rw [Nat.zero_add, List.getD_eq_getElem?_getD, List.getD_eq_getElem?_getD, h1, h2]
    exact ⟨rfl, rfl⟩)] at R
  have z : wpAny (model X.prog X.w) X.A (compareOp .Lt (.ref a) (.ref b)) (EP X pins σ Q) X.xe s := R X.prog X.w X.xe (EP X pins σ Q) ⟨.bl _, H, I, rfl, q⟩
  exact z
def rLtAll (K : KW) : R2 := fun x y H Q => (rI0 fun i j => .bl (decide (i < j))) x y H Q ∨ ((∃ i j, x = .str i ∧ y = .str j ∧ Q (.bl (decide (i.cps.toList < j.cps.toList))) H) ∨ rLtTD K x y H Q)
theorem op_ltAll {X : Cx} (hu : X.A.units < cLine) : OpR X (compareOp .Lt) (rLtAll X.kw) := op_lt.or (op_lt_str.or (op_ltTD hu))
theorem flt_rep {K : KW} {V : Hp} {x y : L2.V} {dx dy : PyData} {b : Bool} (rx : Rep K V x dx) (ry : Rep K V y dy) (h : flatLt dx dy = some b) : fltV x y = some b ∧ eqV x y = PyData.eqv dx dy := by
  cases rx with
  | int i => cases ry with
    | int j => exact ⟨h, by rw [PyData.eqv]; rfl⟩
    | _ => cases h
  | str i => cases ry with
    | str j => exact ⟨h, by rw [PyData.eqv]; rfl⟩
    | _ => cases h
  | _ => cases ry <;> cases h
theorem lex_rep {K : KW} {V : Hp} : ∀ {xs ys : List L2.V} {ds es : List PyData} {b : Bool}, RepL K V xs ds → RepL K V ys es → lexD ds es = some b → lexV xs ys = some b
  | _, _, _, _, _, .nil, .nil, h => h
  | _, _, _, _, _, .nil, .cons _ _, h => h
  | _, _, _, _, _, .cons _ _, .nil, h => h
  | _, _, _, _, b, @RepL.cons _ _ x xs dx ds rx r1, @RepL.cons _ _ y ys dy es ry r2, h => by
    have h : (flatLt dx dy).bind (fun b => (lexD ds es).map fun c => if PyData.eqv dx dy = true then c else b) = some b := h
    cases e1 : flatLt dx dy with
    | none => rw [e1] at h; cases h
    | some c =>
      rw [e1] at h
      cases e2 : lexD ds es with
      | none => rw [e2] at h; cases h
      | some d =>
        rw [e2] at h
        obtain ⟨f1, f2⟩ := flt_rep rx ry e1
        show (fltV x y).bind (fun b => (lexV xs ys).map fun c => if eqV x y = true then c else b) = some b
        rw [f1, lex_rep r1 r2 e2, f2]
        exact h
theorem od_lt {K : KW} : OpD K (rLtAll K) gLt := by
  intro x y dx dy z H V Q s rx ry e q
  cases rx with
  | int i => cases ry with
    | int j => cases e; exact .inl ⟨i, j, rfl, rfl, q _ _ _ (Ext.refl s) (.bl _)⟩
    | _ => cases e
  | str i => cases ry with
    | str j => cases e; exact .inr (.inl ⟨i, j, rfl, rfl, q _ _ _ (Ext.refl s) (.bl _)⟩)
    | _ => cases e
  | @tup a xs ds ha ra => cases ry with
    | @tup b ys es hb rb =>
      have e : (lexD ds es).map PyData.bool = some z := e
      obtain ⟨c, hc, rfl⟩ := Option.map_eq_some_iff.mp e
      exact .inr (.inr ⟨a, b, xs, ys, c, rfl, rfl, sqt s ha, sqt s hb, lex_rep ra rb hc, q _ _ _ (Ext.refl s) (.bl _)⟩)
    | _ => cases e
  | _ => cases ry <;> cases e
end DL
set_option Elab.async false
set_option linter.all false
set_option maxRecDepth 100000
set_option maxHeartbeats 1000000
namespace PySem
open Sem (wp)
theorem meets_enumerate_newB1 {v : Value} {o : Obj} {H : Heap → Prop} (B : Begins v o H) :
    Meets (Builtin.«enumerate.__new__» ⟨[.type "enumerate", v], []⟩) (fun _ R s => H s.heap ∧
      R (.ok (.ret (.ref (s.heap.push o).objs.size))) { s with heap := (s.heap.push o).push { cls := .type "enumerate", data := .fields #[.none, .bool false, .ref s.heap.objs.size, rawInt 0, .none, .none] } }) :=
  .of_wp fun prog w A R s h => by
    obtain ⟨hp, g, d, tk, os⟩ := s; obtain ⟨h1, h⟩ := h
    have hsub := sub_enumerate
    have q1 : ∀ {A' : Around} {E : Value → Shared → Prop} {Q : Value → Shared → Prop}, Q (.ref hp.objs.size) ⟨hp.push o, g, d, tk, os⟩ → wpAny (model prog w) A' (pyIter v) Q E ⟨hp, g, d, tk, os⟩ :=
      fun q => B.iter prog w _ _ ⟨hp, g, d, tk, os⟩ _ h1 q
    wp_walk using q1
    refine wpAny_stack_any fun st => wpAny_pure ?_
    split
    · rename_i c _ _ _ _ _
      cases (c == Value.type "enumerate")
      · wp_walk using q1
        exact ⟨_, rfl, h⟩
      · wp_walk using q1
        exact ⟨_, rfl, h⟩
    · wp_walk using q1
      exact ⟨_, rfl, h⟩
theorem call_enumerate_tuple {prog : Program} {w : World} {A : Around} {E : Value → Shared → Prop} {s : Shared} {l : Addr} {items : Array Value} {Q : Value → Shared → Prop} (hL : s.heap.IsTuple l items)
    (h : ∀ h', IsEnum h' (s.heap.objs.size + 1) s.heap.objs.size 0 .none → h'.IsTupleIter s.heap.objs.size l 0 → h'.objs.size = s.heap.objs.size + 2 →
      (∀ b o, s.heap.get? b = some o → h'.get? b = some o) → Q (.ref (s.heap.objs.size + 1)) { s with heap := h' }) :
    wpAny (model prog w) A (call (.type "enumerate") [.ref l]) Q E s := by
  refine callType_new F.called_enumerate (by decide) (F.typeCall_enumerate_1 _) (F.newCall_enumerate_1 _) (fun obj => F.args_object_init_2 obj _) F.entry_enumerate_new
    (meets_enumerate_newB1 (begins_tuple l items)) ⟨hL, ?_⟩
  have hz : (s.heap.push { cls := .type "tuple_iterator", data := .fields #[.ref l, .int 0 0] }).objs.size = s.heap.objs.size + 1 := Heap.size_push ..
  show _ ∧ _
  rw [hz]
  have he : IsEnum ((s.heap.push { cls := .type "tuple_iterator", data := .fields #[.ref l, .int 0 0] }).push
      { cls := .type "enumerate", data := .fields #[.none, .bool false, .ref s.heap.objs.size, rawInt 0, .none, .none] }) (s.heap.objs.size + 1) s.heap.objs.size 0 .none := by
    have := Heap.get?_push_size (s.heap.push { cls := .type "tuple_iterator", data := .fields #[.ref l, .int 0 0] })
      (o := { cls := .type "enumerate", data := .fields #[.none, .bool false, .ref s.heap.objs.size, rawInt 0, .none, .none] }) rfl
    rw [hz] at this; exact this
  refine ⟨⟨_, he, rfl⟩, h _ he ⟨_, Heap.get?_push_of_some _ (Heap.get?_push_size _ rfl), rfl, rfl⟩ (by rw [Heap.size_push, hz]) fun b o x => Heap.get?_push_of_some _ (Heap.get?_push_of_some _ x)⟩
end PySem
namespace DL
open PySem PySem.Spec PyProof.Rows L2
variable [TabCtx]
/-- the tuple at a, each item in a new pair -/
def IteT (K : PySem.W.Frag) (a : Addr) : It :=
  ⟨fun i H => ∃ (xs : List L2.V) (x : L2.V), SqT K H a xs ∧ xs[i]? = some x, fun i H v H' => ∃ T x, v = .ref T ∧ H T = none ∧ H' = upd H T (.tup [.int (i : Nat), x]) ∧ ∀ xs, SqT K H a xs → xs[i]? = some x, fun i H => ∃ xs : List L2.V, SqT K H a xs ∧ xs.length = i⟩
theorem turn_enumT {P : Program} {w : World} {K : PySem.W.Frag} {elts : List Expr} {kk : Nat} {tpos : Pos} (a e it : Addr) (hai : a ≠ it) (hae : e ≠ a) :
    Turn P w K (.Tuple elts kk tpos) (IteT K a) [e, it] e (fun i h => (∃ old, IsEnum h e it ((i : Nat) : Int) old) ∧ h.IsTupleIter it a i ∧ e ≠ it) where
  mem := by simp
  obj := fun i h st b hb => by
    obtain ⟨⟨old, he⟩, ⟨o, ho, hc, hd⟩, _⟩ := st
    have e' : b = e ∨ b = it := by simpa using hb
    rcases e' with z | z
    · rw [z]; exact ⟨_, he, fun v q => nomatch q⟩
    · rw [z]; exact ⟨o, ho, fun v q => by rw [hd] at q; cases q⟩
  keep := fun i h h' st k => let ⟨⟨old, he⟩, hi, hne⟩ := st; ⟨⟨old, k e (by simp) _ he⟩, hi.at fun o q => k it (by simp) o q, hne⟩
  item := by
    intro X hP hw hK hc i pins s σ H E I hf st hg
    subst hP hw hK
    obtain ⟨⟨old, he⟩, hit, hne⟩ := st
    obtain ⟨xs, x, hq, hx⟩ := hg
    obtain ⟨its, rv, p, hz⟩ := I.tuple hq
    obtain ⟨u, hu, ru⟩ := rv.get hx
    have hel : e < s.heap.objs.size := Heap.lt_size he
    have hil : it < s.heap.objs.size := by obtain ⟨_, q, _⟩ := hit; exact Heap.lt_size q
    have hlt : i < its.toArray.size := by
      have := (List.getElem?_eq_some_iff.mp hu).1
      simpa using this
    have D := Draws.tuple (prog := X.prog) (w := X.w) (A := X.A.in1) (I.ok.hd hc) it a hai its.toArray
    refine wpAny_pyNext_enum_itemD D he ⟨hit, p⟩ hlt hne (by simp [hne, hae]) fun y h' tk hy ho hst' hT hsz hk => ?_
    have eyu : y = u := by
      have h1 : its.toArray[i]? = some y := hy
      rw [List.getElem?_toArray, hu] at h1
      exact (Option.some.inj h1).symm
    subst eyu
    refine ⟨_, rfl, wpAny_letOwnedTupleGo_enum (s := { s with heap := h', toks := tk + 1 }) ho fun h'' he' sb => ?_⟩
    have hT2 : h''.get? s.heap.objs.size = some { cls := .type "tuple", data := .seq #[.int i tk, y] } := (sb.2 _ (Nat.ne_of_gt hel)).trans hT
    have new : ObjOk X.prog X.w (upd H s.heap.objs.size (.tup [.int (i : Nat), x])) h'' s.heap.objs.size (.tup [.int (i : Nat), x]) :=
      ⟨by show 2 ≤ sizeLine; decide, [.int i tk, y], .cons ⟨_, rfl⟩ (.cons ru .nil), ⟨_, hT2, rfl, _, rfl⟩⟩
    have I1 : Inv X pins σ (upd H s.heap.objs.size (.tup [.int (i : Nat), x])) { s with heap := h'', toks := tk + 1 } :=
      I.turnedNew (ch := [e, it]) (fun b ob hb q => (sb.2 b (fun z => hb (by simp [z]))).trans (hk b ob (fun z => hb (by simp [z])) (fun z => hb (by simp [z])) q)) hf (Nat.le_refl _) new
    refine ⟨.ref s.heap.objs.size, _, I1, rfl, ⟨_, x, rfl, I.hok.fresh (Nat.le_refl _), rfl, fun ys hy => by rw [I.tuple_inj hy hq]; exact hx⟩, ⟨⟨y, ?_⟩, hst'.1.at fun o q => (sb.2 it (Ne.symm hne)).trans q, hne⟩, fun b hb => ?_⟩
    · have e1 : ((i + 1 : Nat) : Int) = (i : Int) + 1 := by omega
      rw [e1]; exact he'
    · have hb' : b < s.heap.objs.size := by
        have e' : b = e ∨ b = it := by simpa using hb
        rcases e' with z | z
        · rw [z]; exact hel
        · rw [z]; exact hil
      rw [upd_ne (Nat.ne_of_lt hb')]
      exact (hf b hb).1
  done := by
    intro X hP hw hK hc i pins s σ H E I hf st hg
    subst hP hw hK
    obtain ⟨⟨old, he⟩, hit, hne⟩ := st
    obtain ⟨xs, hq, hx⟩ := hg
    obtain ⟨its, rv, p, hz⟩ := I.tuple hq
    obtain ⟨f0, f1, f2, f3, f4, f5⟩ := hf it (by simp)
    have hl := rv.length
    have D := Draws.tuple (prog := X.prog) (w := X.w) (A := X.A.in1) (I.ok.hd hc) it a hai its.toArray
    have en : i = its.toArray.size := by
      rw [List.size_toArray, ← hl]; exact hx.symm
    subst en
    exact wpAny_pyNext_enum_endD D he ⟨hit, p⟩ fun h' eb => ⟨rfl, I.turned (t' := s.toks) (fun b o hb q => eb b o hb q) f0 f1 f3 f4 f5⟩
  self := fun A i s Q E st h => let ⟨⟨_, he⟩, _⟩ := st; wpAny_pyIter_enum he h
def iEnumA (K : PySem.W.Frag) (ta : TA) : TI := fun σ H R => ta σ H fun vs H1 => ∃ a xs, vs = [.ref a] ∧ ((SqL K H1 a xs ∧ R (Ite K a) H1) ∨ (SqT K H1 a xs ∧ R (IteT K a) H1))
theorem pi_enumA {X : Cx} {e : Expr} {ta : TA} {p pos tpos : Pos} {elts : List Expr} {kk : Nat} (hg : Gl X "enumerate") (hm : X.mg "enumerate" = none) (ha : PA X [e] ta) (hs : starEach [e] X.env = [(false, eval e X.env)] := by rfl) :
    PI X (.Tuple elts kk tpos) (.Call (.Name "enumerate" p) [e] [] pos) (iEnumA X.kw ta) := by
  refine ⟨fun pins s σ H R I h => ?_⟩
  refine Call_ (ld_blt I hg hm boot_enumerate (PyProof.Rows.callWith_type1 (thn (ha.run pos pins s σ H _ I h) fun us s1 ⟨vs, H1, I1, r1, q1⟩ => ?_) hs rfl))
  obtain ⟨a, xs, ex, q1⟩ := q1
  subst ex
  cases r1 with
  | cons r rr =>
    cases rr
    cases r
    rcases q1 with ⟨hq, q⟩ | ⟨hq, q⟩
    · obtain ⟨its, rv, p', hz⟩ := I1.list hq
      refine call_enumerate_list p'.isList fun h' he hit hsz hk => wpAny_pyIter_enum he ?_
      have I2 : Inv X pins σ H1 { s1 with heap := h' } := I1.kept (t' := s1.toks) hk
      refine ⟨s1.heap.objs.size + 1, [s1.heap.objs.size + 1, s1.heap.objs.size], _, _, H1, rfl, I2, turn_enum a (s1.heap.objs.size + 1) s1.heap.objs.size, ⟨⟨.none, he⟩, hit, Nat.succ_ne_self _⟩, fun b hb => ?_, q⟩
      have e' : b = s1.heap.objs.size + 1 ∨ b = s1.heap.objs.size := by simpa using hb
      have hle : s1.heap.objs.size ≤ b := by
        rcases e' with z | z
        · rw [z]; exact Nat.le_add_right _ _
        · rw [z]; exact Nat.le_refl _
      exact I1.fpOk hle (I1.hok.fresh hle)
    · obtain ⟨its, rv, p', hz⟩ := I1.tuple hq
      have hlt : a < s1.heap.objs.size := p'.lt
      refine call_enumerate_tuple (show s1.heap.IsTuple a its.toArray from p') fun h' he hit hsz hk => wpAny_pyIter_enum he ?_
      have I2 : Inv X pins σ H1 { s1 with heap := h' } := I1.kept (t' := s1.toks) hk
      refine ⟨s1.heap.objs.size + 1, [s1.heap.objs.size + 1, s1.heap.objs.size], _, _, H1, rfl, I2, turn_enumT a (s1.heap.objs.size + 1) s1.heap.objs.size (Nat.ne_of_lt hlt) (Nat.ne_of_gt (Nat.lt_succ_of_lt hlt)), ⟨⟨.none, he⟩, hit, Nat.succ_ne_self _⟩, fun b hb => ?_, q⟩
      have e' : b = s1.heap.objs.size + 1 ∨ b = s1.heap.objs.size := by simpa using hb
      have hle : s1.heap.objs.size ≤ b := by
        rcases e' with z | z
        · rw [z]; exact Nat.le_add_right _ _
        · rw [z]; exact Nat.le_refl _
      exact I1.fpOk hle (I1.hok.fresh hle)
def enumD (i : Nat) : List PyData → List PyData
  | [] => []
  | d :: ds => .tuple [.int (i : Nat), d] :: enumD (i + 1) ds
theorem enumD_get : ∀ (ds : List PyData) (k i : Nat), (enumD k ds)[i]? = (ds[i]?).map fun d => .tuple [.int ((k + i : Nat) : Int), d]
  | [], _, _ => by simp [enumD]
  | d :: ds, k, 0 => rfl
  | d :: ds, k, i + 1 => by
    show (enumD (k + 1) ds)[i]? = _
    rw [enumD_get ds (k + 1) i, List.getElem?_cons_succ, show k + 1 + i = k + (i + 1) by omega]
theorem enumD_len : ∀ (ds : List PyData) (k : Nat), (enumD k ds).length = ds.length
  | [], _ => rfl
  | d :: ds, k => congrArg Nat.succ (enumD_len ds (k + 1))
def gEnum : List PyData → Option (List PyData)
  | [.list a] => some (enumD 0 a)
  | [.tuple a] => some (enumD 0 a)
  | _ => none
theorem itE {K : KW} {a : Addr} {xs : List L2.V} {V : Hp} {ds : List PyData} (ha : V a = some (.lst xs)) (ra : RepL K V xs ds) : ItD K (Ite K a) V (enumD 0 ds) := by
  intro i H' V' s1 s2
  have q1 : SqL K H' a xs := .inl (.inl (s2 _ _ (s1 _ _ ha)))
  refine ⟨fun d hd => ?_, fun e => ⟨xs, q1, by rw [ra.length, e, enumD_len]; exact Nat.le_refl _⟩⟩
  rw [enumD_get, Nat.zero_add] at hd
  obtain ⟨d', h1, rfl⟩ := Option.map_eq_some_iff.mp hd
  obtain ⟨v, h2, h3⟩ := ra.get i h1
  refine ⟨⟨xs, v, q1, h2⟩, fun z H'' hy => ?_⟩
  obtain ⟨T, x, rfl, hT, rfl, f⟩ := hy
  have e1 : v = x := Option.some.inj (h2.symm.trans (f xs q1))
  subst e1
  exact ⟨_, Ext.new s2 hT, new_tup s2 hT (.cons (.int _) (.cons (h3.mono s1) .nil))⟩
theorem itET {K : KW} {a : Addr} {xs : List L2.V} {V : Hp} {ds : List PyData} (ha : V a = some (.tup xs)) (ra : RepL K V xs ds) : ItD K (IteT K a) V (enumD 0 ds) := by
  intro i H' V' s1 s2
  have q1 : SqT K H' a xs := sqt s2 (s1 _ _ ha)
  refine ⟨fun d hd => ?_, fun e => ⟨xs, q1, by rw [ra.length, e, enumD_len]⟩⟩
  rw [enumD_get, Nat.zero_add] at hd
  obtain ⟨d', h1, rfl⟩ := Option.map_eq_some_iff.mp hd
  obtain ⟨v, h2, h3⟩ := ra.get i h1
  refine ⟨⟨xs, v, q1, h2⟩, fun z H'' hy => ?_⟩
  obtain ⟨T, x, rfl, hT, rfl, f⟩ := hy
  have e1 : v = x := Option.some.inj (h2.symm.trans (f xs q1))
  subst e1
  exact ⟨_, Ext.new s2 hT, new_tup s2 hT (.cons (.int _) (.cons (h3.mono s1) .nil))⟩
section
variable {X : Cx} {F : Fr} {e : Expr} {fs : M (List PyData)} {fa : M PyData} {pos p : Pos}
theorem pmi_enum {elts : List Expr} {kk : Nat} {tpos : Pos} (hm : X.mg "enumerate" = none) (ha : PMA X F [e] fs) (hg : Gl X "enumerate" := by rfl) (hs : starEach [e] X.env = [(false, eval e X.env)] := by rfl) :
    PMI X F (.Tuple elts kk tpos) (.Call (.Name "enumerate" p) [e] [] pos) (opI gEnum fs) := by
  refine PI.imp (pi_enumA hg hm ha hs) fun σ H R ⟨V, ρ, E, g0⟩ => ⟨V, ρ, E, Goal.bind g0 fun x dx H1 V1 ρ1 st1 r1 g1 => ?_⟩
  obtain ⟨z, ez, q⟩ := Goal.opt st1.env g1
  have s := st1.env.sub
  cases r1 with
  | nil => cases ez
  | cons r1 r2 =>
    cases r2 with
    | cons _ _ => cases r1 <;> cases ez
    | nil =>
      cases r1 with
      | @lst a xs ds ha ra => cases ez; exact ⟨a, xs, rfl, .inl ⟨.inl (.inl (s _ _ ha)), q _ _ _ (Ext.refl s) (itE ha ra)⟩⟩
      | @tup a xs ds ha ra => cases ez; exact ⟨a, xs, rfl, .inr ⟨sqt s ha, q _ _ _ (Ext.refl s) (itET ha ra)⟩⟩
      | _ => cases ez
end
theorem RepL.one {K : KW} {V : Hp} {xs : List L2.V} {ds : List PyData} {P : Prop} (r : RepL K V xs ds) (h : ∀ x d, xs = [x] → ds = [d] → Rep K V x d → P) (h0 : ds.length = 1) : P := by
  cases r with
  | nil => cases h0
  | cons r1 r2 =>
    cases r2 with
    | nil => exact h _ _ rfl rfl r1
    | cons _ _ => simp at h0
def boolsD : List PyData → Option (List Bool)
  | [] => some []
  | .bool b :: ds => (boolsD ds).map fun bs => b :: bs
  | _ :: _ => none
theorem bools_rep {K : KW} {V : Hp} : ∀ {xs : List L2.V} {ds : List PyData} {bs : List Bool}, RepL K V xs ds → boolsD ds = some bs → xs = bs.map L2.V.bl
  | _, _, _, .nil, h => by cases h; rfl
  | _, _, bs, @RepL.cons _ _ x xs d ds r t, h => by
    cases r with
    | bl b =>
      have h : (boolsD ds).map (fun bs => b :: bs) = some bs := h
      obtain ⟨cs, h1, rfl⟩ := Option.map_eq_some_iff.mp h
      rw [bools_rep t h1]
      rfl
    | _ => cases h
def gAll : List PyData → Option PyData
  | [.list ds] => (boolsD ds).map fun bs => .bool (bs.all id)
  | _ => none
def gAny : List PyData → Option PyData
  | [.list ds] => (boolsD ds).map fun bs => .bool (bs.any id)
  | _ => none
theorem cd_all {K : KW} : CallD K (rAll K) gAll := by
  intro xs ds z H V Q s r e q
  cases r with
  | nil => cases e
  | cons r1 r2 =>
    cases r2 with
    | cons _ _ => cases r1 <;> cases e
    | nil =>
      cases r1 with
      | @lst a ys es ha ra =>
        have e : (boolsD es).map (fun bs => PyData.bool (bs.all id)) = some z := e
        obtain ⟨bs, hb, rfl⟩ := Option.map_eq_some_iff.mp e
        have hy := bools_rep ra hb
        subst hy
        exact ⟨a, bs, rfl, .inl (.inl (s _ _ ha)), q _ _ _ (Ext.refl s) (.bl _)⟩
      | _ => cases e
def gTuple : List PyData → Option PyData
  | [.list ds] => some (.tuple ds)
  | [.tuple ds] => some (.tuple ds)
  | _ => none
theorem cd_tuple {K : KW} : CallD K (fun xs H Q => ∃ p ys, xs = [.ref p] ∧ ((SqL K H p ys ∧ ∀ l, H l = none → Q (.ref l) (upd H l (.tup ys))) ∨ (SqT K H p ys ∧ Q (.ref p) H))) gTuple := by
  intro xs ds z H V Q s r e q
  cases r with
  | nil => cases e
  | cons r1 r2 =>
    cases r2 with
    | cons _ _ => cases r1 <;> cases e
    | nil =>
      cases r1 with
      | @lst a ys es ha ra => cases e; exact ⟨a, ys, rfl, .inl ⟨.inl (.inl (s _ _ ha)), fun p hp => q _ _ _ (Ext.new s hp) (new_tup s hp ra)⟩⟩
      | @tup a ys es ha ra => cases e; exact ⟨a, ys, rfl, .inr ⟨sqt s ha, q _ _ _ (Ext.refl s) (.tup ha ra)⟩⟩
      | _ => cases e
def gInt : List PyData → Option PyData
  | [.int i] => some (.int i)
  | [.bool b] => some (.int (if b then 1 else 0))
  | _ => none
theorem cd_int {K : KW} : CallD K (fun xs H Q => (∃ i, xs = [.int i] ∧ Q (.int i) H) ∨ ∃ k, xs = [.bl k] ∧ Q (.int (if k then 1 else 0)) H) gInt := by
  intro xs ds z H V Q s r e q
  cases r with
  | nil => cases e
  | cons r1 r2 =>
    cases r2 with
    | cons _ _ => cases r1 <;> cases e
    | nil =>
      cases r1 with
      | int i => cases e; exact .inl ⟨i, rfl, q _ _ _ (Ext.refl s) (.int _)⟩
      | bl b => cases e; exact .inr ⟨b, rfl, q _ _ _ (Ext.refl s) (.int _)⟩
      | _ => cases e
def intsD : List PyData → Option (List Int)
  | [] => some []
  | .int b :: ds => (intsD ds).map fun bs => b :: bs
  | _ :: _ => none
theorem ints_rep {K : KW} {V : Hp} : ∀ {xs : List L2.V} {ds : List PyData} {bs : List Int}, RepL K V xs ds → intsD ds = some bs → xs = bs.map L2.V.int
  | _, _, _, .nil, h => by cases h; rfl
  | _, _, bs, @RepL.cons _ _ x xs d ds r t, h => by
    cases r with
    | int b =>
      have h : (intsD ds).map (fun bs => b :: bs) = some bs := h
      obtain ⟨cs, h1, rfl⟩ := Option.map_eq_some_iff.mp h
      rw [ints_rep t h1]
      rfl
    | _ => cases h
end DL
set_option Elab.async false
set_option linter.all false
set_option maxRecDepth 100000
set_option maxHeartbeats 1000000
namespace DL
open PySem PySem.Spec PyProof.Rows L2
variable [TabCtx]
def tyD : PyData → String
  | .none => "NoneType"
  | .bool _ => "bool"
  | .int _ => "int"
  | .str _ => "str"
  | .list _ => "list"
  | .tuple _ => "tuple"
  | .dict _ => "dict"
/-- a value's type; a dict by tuples besides -/
def TyY (K : KW) (H : Hp) (x : L2.V) (t : Value) : Prop := TyX K H x t ∨ ∃ a xs ep, x = .ref a ∧ H a = some (dX K.w a xs ep) ∧ t = .type "dict"
theorem ty_rep {K : KW} {V H : Hp} {x : L2.V} {d : PyData} (s : Same V H) (r : Rep K V x d) : TyY K H x (.type (tyD d)) := by
  cases r with
  | non => exact .inl (.base .non)
  | bl b => exact .inl (.base (.bl b))
  | int i => exact .inl (.base (.int i))
  | str x => exact .inl (.base (.str x))
  | lst h _ => exact .inl (.base (.lst (s _ _ h)))
  | tup h _ => exact .inl (.base (.tup (s _ _ h)))
  | dk h _ => exact .inl (.base (.dK (s _ _ h)))
  | dt h _ => exact .inr ⟨_, _, _, rfl, s _ _ h, rfl⟩
def rIsiY (K : KW) : List L2.V → Hp → VK → Prop := fun xs H Q => ∃ x c t u b, xs = [x, c] ∧ ClsV c u ∧ TyY K H x t ∧ PySem.W.kitOne K t u = some b ∧ Q (.bl b) H
theorem call_isiY {X : Cx} : CallR X (.builtin "isinstance") (rIsiY X.kw) := by
  intro pins s σ H xs us Q I r h
  obtain ⟨x, c, t, u, b, rfl, k, ty, e, q⟩ := h
  rcases ty with ty | ⟨a, ys, ep, rfl, hx, rfl⟩
  · exact call_isi pins s σ H _ us Q I r ⟨x, c, t, u, b, rfl, k, ty, e, q⟩
  · cases r with
    | cons r1 r =>
      cases r with
      | cons r2 r =>
        cases r
        have e2 := k.eq r2
        subst e2
        cases r1
        obtain ⟨⟨_, _, _, us, o, es, _, h1, h2, _⟩, _, _⟩ := (show ObjOk X.prog X.w H s.heap a (dX X.w a ys ep) from I.hok a _ hx)
        exact PySem.W.kia_one (PySem.W.kitx_dict (a := a)) I.kIn ⟨o, h1, h2.1⟩ e (fun z => nomatch z) fun tk => ⟨.bl b, H, I.tok tk, rfl, q⟩
inductive Ty where
  | int | bool | str | list | tuple | dict
def Ty.name : Ty → String
  | .int => "int"
  | .bool => "bool"
  | .str => "str"
  | .list => "list"
  | .tuple => "tuple"
  | .dict => "dict"
def isD : Ty → PyData → Bool
  | .int, .int _ => true
  | .int, .bool _ => true
  | .bool, .bool _ => true
  | .str, .str _ => true
  | .list, .list _ => true
  | .tuple, .tuple _ => true
  | .dict, .dict _ => true
  | _, _ => false
theorem kb (T : Ty) (d : PyData) : kitB (tyD d) T.name = some (isD T d) := by
  cases T <;> cases d <;> first
    | exact (by decide +kernel : kitB "NoneType" "int" = some false) | exact (by decide +kernel : kitB "bool" "int" = some true) | exact (by decide +kernel : kitB "int" "int" = some true) | exact (by decide +kernel : kitB "str" "int" = some false) | exact (by decide +kernel : kitB "list" "int" = some false) | exact (by decide +kernel : kitB "tuple" "int" = some false) | exact (by decide +kernel : kitB "dict" "int" = some false)
    | exact (by decide +kernel : kitB "NoneType" "bool" = some false) | exact (by decide +kernel : kitB "bool" "bool" = some true) | exact (by decide +kernel : kitB "int" "bool" = some false) | exact (by decide +kernel : kitB "str" "bool" = some false) | exact (by decide +kernel : kitB "list" "bool" = some false) | exact (by decide +kernel : kitB "tuple" "bool" = some false) | exact (by decide +kernel : kitB "dict" "bool" = some false)
    | exact (by decide +kernel : kitB "NoneType" "str" = some false) | exact (by decide +kernel : kitB "bool" "str" = some false) | exact (by decide +kernel : kitB "int" "str" = some false) | exact (by decide +kernel : kitB "str" "str" = some true) | exact (by decide +kernel : kitB "list" "str" = some false) | exact (by decide +kernel : kitB "tuple" "str" = some false) | exact (by decide +kernel : kitB "dict" "str" = some false)
    | exact (by decide +kernel : kitB "NoneType" "list" = some false) | exact (by decide +kernel : kitB "bool" "list" = some false) | exact (by decide +kernel : kitB "int" "list" = some false) | exact (by decide +kernel : kitB "str" "list" = some false) | exact (by decide +kernel : kitB "list" "list" = some true) | exact (by decide +kernel : kitB "tuple" "list" = some false) | exact (by decide +kernel : kitB "dict" "list" = some false)
    | exact (by decide +kernel : kitB "NoneType" "tuple" = some false) | exact (by decide +kernel : kitB "bool" "tuple" = some false) | exact (by decide +kernel : kitB "int" "tuple" = some false) | exact (by decide +kernel : kitB "str" "tuple" = some false) | exact (by decide +kernel : kitB "list" "tuple" = some false) | exact (by decide +kernel : kitB "tuple" "tuple" = some true) | exact (by decide +kernel : kitB "dict" "tuple" = some false)
    | exact (by decide +kernel : kitB "NoneType" "dict" = some false) | exact (by decide +kernel : kitB "bool" "dict" = some false) | exact (by decide +kernel : kitB "int" "dict" = some false) | exact (by decide +kernel : kitB "str" "dict" = some false) | exact (by decide +kernel : kitB "list" "dict" = some false) | exact (by decide +kernel : kitB "tuple" "dict" = some false) | exact (by decide +kernel : kitB "dict" "dict" = some true)
/-- isinstance(x, T), T a built-in class -/
def isi (T : Ty) (a : M PyData) : M PyData := op1 (fun d => some (.bool (isD T d))) a
section
variable {X : Cx} {F : Fr} {e : Expr} {es : List Expr} {fs : M (List PyData)} {fa : M PyData} {pos p p2 : Pos}
theorem pm_isi (T : Ty) {t : Str} (hm : X.mg "isinstance" = none) (hmt : X.mg t = none) (ha : PM X F e fa) (ht : bootBuiltins t = some (.type T.name) := by decide +kernel) (hg : Gl X "isinstance" := by rfl) (hgt : Gl X t := by rfl)
    (hn : t ≠ "__name__" := by decide) (hd : (t == ("__debug__" : Str)) = false := by decide)
    (he : starEach [e, .Name t p2] X.env = (false, eval e X.env) :: starEach [.Name t p2] X.env := by rfl) (he2 : starEach [.Name t p2] X.env = (false, eval (.Name t p2) X.env) :: starEach [] X.env := by rfl) (hpl : (backTo pos (starEach [.Name t p2] X.env)).any (·.1) = false := by rfl) :
    PM X F (.Call (.Name "isinstance" p) [e, .Name t p2] [] pos) (isi T fa) := by
  have h2 : PE X (.Name t p2) (tC (.ty T.name)) := pe_bltn hgt hmt ht rfl hn hd
  refine PE.imp (pe_callB call_isiY hg hm (by decide +kernel) (pa_cons ha (pa_cons h2 pa_nil he2) he) (by decide) (by decide) he hpl) fun σ H Q ⟨V, ρ, E, g0⟩ => ⟨V, ρ, E, Goal.bind g0 fun x dx H1 V1 ρ1 st1 r1 g1 => ?_⟩
  obtain ⟨z, ez, q⟩ := Goal.opt st1.env g1
  cases ez
  exact ⟨x, .ty T.name, .type (tyD dx), .type T.name, isD T dx, rfl, .ty T.name, ty_rep st1.env.sub r1, kit_ty (kb T dx), q _ _ _ (Ext.refl st1.env.sub) (.bl _)⟩
end
def findD (x : PyData) : List PyData → Option Nat
  | [] => none
  | y :: ys => if PyData.eqv y x = true then some 0 else (findD x ys).map (· + 1)
theorem findD_spec {x : PyData} : ∀ {ys : List PyData} {j : Nat}, findD x ys = some j → (∃ z, ys[j]? = some z ∧ PyData.eqv z x = true) ∧ ∀ (m : Nat) (z : PyData), m < j → ys[m]? = some z → PyData.eqv z x = false
  | [], j, h => by cases h
  | y :: ys, j, h => by
    unfold findD at h
    by_cases e : PyData.eqv y x = true
    · rw [if_pos e] at h
      cases h
      exact ⟨⟨y, rfl, e⟩, fun m z hm => absurd hm (Nat.not_lt_zero m)⟩
    · rw [if_neg e] at h
      obtain ⟨k, hk, rfl⟩ := Option.map_eq_some_iff.mp h
      obtain ⟨⟨z, h1, h2⟩, h3⟩ := findD_spec hk
      refine ⟨⟨z, h1, h2⟩, fun m w hm hw => ?_⟩
      cases m with
      | zero => cases hw; cases q : PyData.eqv y x; rfl; exact absurd q e
      | succ m => exact h3 m w (by omega) hw
def gIndex : PyData → List PyData → Option PyData
  | .list ds, [x] => if (SeqAt.shaped x && SeqAt.shaped (.list ds)) = true then (findD x ds).map fun j => .int (j : Nat) else none
  | _, _ => none
def asL : PyData → Option (List PyData)
  | .list ds => some ds
  | _ => none
/-- a list's method -/
def opM (g : PyData → List PyData → Option PyData) (a : M PyData) (as : M (List PyData)) : M PyData := M.bind a fun x => M.bind (M.opt (asL x)) fun _ => M.bind as fun xs => M.opt (g x xs)
theorem md_index {K : KW} {x : L2.V} {xs : List L2.V} {dx : PyData} {ds : List PyData} {z : PyData} {H V : Hp} {Q : VK} (s : Same V H) (rx : Rep K V x dx) (rs : RepL K V xs ds) (e : gIndex dx ds = some z) (q : ∀ v H' V', Ext H V H' V' → Rep K V' v z → Q v H') : rIndexD K x xs H Q := by
  cases rx with
  | @lst a ys es ha ra =>
    cases rs with
    | nil => cases e
    | @cons y ys' d ds' r1 r2 =>
      cases r2 with
      | cons _ _ => cases e
      | nil =>
        have e : (if (SeqAt.shaped d && SeqAt.shaped (.list es)) = true then (findD d es).map fun j => PyData.int (j : Nat) else none) = some z := e
        by_cases h : (SeqAt.shaped d && SeqAt.shaped (.list es)) = true
        · rw [if_pos h] at e
          obtain ⟨h1, h2⟩ := Bool.and_eq_true_iff.mp h
          obtain ⟨j, hj, rfl⟩ := Option.map_eq_some_iff.mp e
          obtain ⟨⟨w, w1, w2⟩, w3⟩ := findD_spec hj
          exact ⟨a, y, d, es, j, w, rfl, rfl, ((Rep.lst ha ra).mono s).dp (SeqAt.canLay_of_shaped h2), (r1.mono s).dp (SeqAt.canLay_of_shaped h1), h2, h1, w1, w2, w3, q _ _ _ (Ext.refl s) (.int _)⟩
        · rw [if_neg h] at e; cases e
  | _ => cases rs <;> cases e
section
variable {X : Cx} {F : Fr} {o e : Expr} {es : List Expr} {fs : M (List PyData)} {fa : M PyData} {cpos apos : Pos}
theorem pm_index (hu : X.A.units + 65 < cLine) (ho : PM X F o fa) (ha : PMA X F [e] fs) (hbase : attributeBase o "index" X.env (eval o X.env) = eval o X.env := by rfl)
    (hfew : ((backTo cpos (starEach [e] X.env)).all (fun x => !x.1) && (backToKw cpos (keywordEach [] X.env)).all (fun x => x.1.isSome) && decide ([e].length + ([] : List Keyword).length + (if ([] : List Keyword).isEmpty then 0 else 1) < 30)) = true := by rfl)
    (hline : (apos.endLine == cpos.line) = true := by rfl) (hs : starEach [e] X.env = (false, eval e X.env) :: starEach [] X.env := by rfl) (hplain : (backTo cpos (starEach [] X.env)).any (·.1) = false := by rfl) :
    PM X F (.Call (.Attribute o "index" apos) [e] [] cpos) (opM gIndex fa fs) := by
  refine PE.imp (pe_bm PySem.F.plainAttrs_list PySem.F.slot_list_index PySem.F.type_list_index (mt_indexD hu) ho ha hbase hfew hline hs hplain) fun σ H Q ⟨V, ρ, E, g0⟩ => ⟨V, ρ, E, Goal.bind g0 fun x dx H1 V1 ρ1 st1 r1 g1 => ?_⟩
  cases r1 with
  | @lst a ys es ha ra =>
    refine ⟨.inl ⟨rfl, ys, .inl (.inl (st1.env.sub _ _ ha))⟩, V1, ρ1, st1.env, Goal.bind g1 fun xs ds H2 V2 ρ2 st2 r2 g2 => ?_⟩
    obtain ⟨z, ez, q⟩ := Goal.opt st2.env g2
    exact md_index st2.env.sub ((Rep.lst ha ra).mono st2.v) r2 ez q
  | _ => exact False.elim g1
end
def dd : List Int → List Int
  | [] => []
  | x :: xs => if x ∈ xs then dd xs else x :: dd xs
theorem dd_mem {k : Int} : ∀ {xs : List Int}, k ∈ dd xs ↔ k ∈ xs
  | [] => Iff.rfl
  | x :: xs => by
    unfold dd
    by_cases h : x ∈ xs
    · rw [if_pos h, dd_mem, List.mem_cons]
      exact ⟨.inr, fun q => q.elim (fun e => by rw [e]; exact h) id⟩
    · rw [if_neg h, List.mem_cons, List.mem_cons, dd_mem]
theorem dd_nodup : ∀ {xs : List Int}, (dd xs).Nodup
  | [] => List.nodup_nil
  | x :: xs => by
    unfold dd
    by_cases h : x ∈ xs
    · rw [if_pos h]; exact dd_nodup
    · rw [if_neg h]; exact List.nodup_cons.mpr ⟨fun q => h (dd_mem.mp q), dd_nodup⟩
theorem nodup_len {l m : List Int} (h1 : l.Nodup) (h2 : m.Nodup) (h : ∀ k, k ∈ l ↔ k ∈ m) : l.length = m.length := ((List.perm_ext_iff_of_nodup h1 h2).mpr h).length_eq
theorem step_nodup {l : List Int} {k : Int} (h : l.Nodup) : (step_dedup l k).Nodup ∧ ∀ j, j ∈ step_dedup l k ↔ j ∈ l ∨ j = k := by
  unfold step_dedup
  cases e : l.any (· == k) with
  | true =>
    obtain ⟨x, h1, h2⟩ := List.any_eq_true.mp e
    have e2 : x = k := eq_of_beq h2
    subst e2
    exact ⟨h, fun j => ⟨.inl, fun q => q.elim id fun e => by rw [e]; exact h1⟩⟩
  | false =>
    have n : k ∉ l := fun q => by
      have : (l.any fun x => x == k) = true := List.any_eq_true.mpr ⟨k, q, beq_self_eq_true k⟩
      rw [e] at this; cases this
    refine ⟨?_, fun j => by simp⟩
    show (l ++ [k]).Nodup
    exact List.nodup_append.mpr ⟨h, List.nodup_cons.mpr ⟨by simp, List.nodup_nil⟩, fun a ha b hb z => n (by rw [List.mem_singleton.mp hb] at z; rw [← z]; exact ha)⟩
theorem fold_nodup : ∀ (ns l : List Int), l.Nodup → (ns.foldl step_dedup l).Nodup ∧ ∀ j, j ∈ ns.foldl step_dedup l ↔ j ∈ l ∨ j ∈ ns
  | [], l, h => ⟨h, fun j => by simp⟩
  | n :: ns, l, h => by
    obtain ⟨h1, h2⟩ := step_nodup (k := n) h
    obtain ⟨h3, h4⟩ := fold_nodup ns _ h1
    refine ⟨h3, fun j => ?_⟩
    show j ∈ ns.foldl step_dedup (step_dedup l n) ↔ _
    rw [h4 j, h2 j, List.mem_cons]
    constructor
    · rintro ((a | a) | a)
      · exact .inl a
      · exact .inr (.inl a)
      · exact .inr (.inr a)
    · rintro (a | a | a)
      · exact .inl (.inl a)
      · exact .inl (.inr a)
      · exact .inr a
theorem firstMet_len (ns : List Int) : (firstMet (fun i => ns.getD i 0) ns.length).length = (dd ns).length := by
  have e : (List.range ns.length).map (fun i => ns.getD i 0) = ns := by
    apply List.ext_getElem?
    intro i
    rw [List.getElem?_map]
    by_cases h : i < ns.length
    · simp [h]
    · simp [h]
  unfold firstMet
  rw [e]
  obtain ⟨h1, h2⟩ := fold_nodup ns [] List.nodup_nil
  exact nodup_len h1 dd_nodup fun k => by rw [h2 k, dd_mem]; simp
def setLen : PyData → Option PyData
  | .list ds => (intsD ds).bind fun ns => if ns.length ≤ 4000 then some (.int (dd ns).length) else none
  | .tuple ds => (intsD ds).bind fun ns => if ns.length ≤ 4000 then some (.int (dd ns).length) else none
  | _ => none
section
variable {X : Cx} {F : Fr} {a : Expr} {fa : M PyData} {p p2 q pos : Pos}
theorem pm_setLen (hm : X.mg "len" = none) (hm2 : X.mg "set" = none) (ha : PM X F a fa) (hg : Gl X "len" := by rfl) (hg2 : Gl X "set" := by rfl) (hc : X.calm = true := by rfl)
    (na : starEach [a] X.env = (false, eval a X.env) :: starEach [] X.env := by rfl) : PM X F (.Call (.Name "len" p) [.Call (.Name "set" p2) [a] [] q] [] pos) (op1 setLen fa) := by
  refine ⟨fun pins s σ H Q I h => ?_⟩
  refine Call_ (ld_blt I hg hm boot_len ?_)
  refine PyProof.Rows.callWith_builtin1 (PyProof.Rows.args_cons ?_ rfl) rfl rfl
  refine Call_ (ld_blt I hg2 hm2 boot_set ?_)
  obtain ⟨V, ρ, E, g0⟩ := h
  refine PyProof.Rows.callWith_type1 (PyProof.Rows.args_cons (thn (ha.run pins s σ H (fun x H1 => (∃ (l : Addr) (ns : List Int), x = .ref l ∧ (SqL X.kw H1 l (ns.map L2.V.int) ∨ SqT X.kw H1 l (ns.map L2.V.int)) ∧ ns.length ≤ 4000 ∧ Q (.int ((dd ns).length : Nat)) H1)) I ⟨V, ρ, E, Goal.bind g0 fun x dx H1 V1 ρ1 st1 r1 g1 => ?_⟩) fun v s1 ⟨x, H1, I1, r1, q1⟩ => PyProof.Rows.args_nil ?_) na) na rfl
  · obtain ⟨z, ez, q⟩ := Goal.opt st1.env g1
    have fin : ∀ {ds : List PyData}, ((intsD ds).bind fun ns => if ns.length ≤ 4000 then some (PyData.int (dd ns).length) else none) = some z → ∃ ns, intsD ds = some ns ∧ ns.length ≤ 4000 ∧ z = .int (dd ns).length := fun {ds} h => by
      cases e : intsD ds with
      | none => rw [e] at h; cases h
      | some ns =>
        rw [e] at h
        obtain ⟨h1, h2⟩ := ite_some h
        exact ⟨ns, rfl, h1, h2.symm⟩
    cases r1 with
    | @lst b xs ds hb rb =>
      obtain ⟨ns, h1, h2, rfl⟩ := fin ez
      have e := ints_rep rb h1
      subst e
      exact ⟨b, ns, rfl, .inl (.inl (.inl (st1.env.sub _ _ hb))), h2, q _ _ _ (Ext.refl st1.env.sub) (.int _)⟩
    | @tup b xs ds hb rb =>
      obtain ⟨ns, h1, h2, rfl⟩ := fin ez
      have e := ints_rep rb h1
      subst e
      exact ⟨b, ns, rfl, .inr (sqt st1.env.sub hb), h2, q _ _ _ (Ext.refl st1.env.sub) (.int _)⟩
    | _ => cases ez
  · obtain ⟨l, ns, rfl, hq, hl, q1⟩ := q1
    cases r1
    rcases hq with hq | hq
    · obtain ⟨its, r, pl, hz⟩ := I1.list hq
      have hlen : its.toArray.size = ns.length := by rw [List.size_toArray, ← r.length, List.length_map]
      refine call_set_list (I1.ok.hd hc) pl.isList (by simpa using RZ.intsAre_vals r) (by rw [hlen]; unfold scanBound; omega) fun h' tk hS hk => ?_
      refine PyProof.Rows.args_nil ?_
      rw [hlen, firstMet_len] at hS
      obtain ⟨o, es, ep, t, ho, hex, hd, _, _, _, hf, hn⟩ := hS
      have I2 : Inv X pins σ H1 { s1 with heap := h', toks := tk } := I1.kept fun b o e => hk b o (Heap.lt_size e) e
      have hle : (dd ns).length ≤ 4000 := by
        rw [← firstMet_len]
        exact Nat.le_trans (firstMet_length_le _ _) hl
      exact call_len_set ho hex hd hf (by rw [hn] <;> omega) ⟨.int (dd ns).length, H1, I2.tok _, ⟨_, by rw [hn]⟩, q1⟩
    · obtain ⟨its, r, pl, hz⟩ := I1.tuple hq
      refine L2.call_set_tupI ns (I1.ok.hd hc) (show s1.heap.IsTuple l its.toArray from pl) (by simpa using RZ.intsAre_vals r) (by unfold scanBound; omega) fun h' tk c hS hle hk => ?_
      refine PyProof.Rows.args_nil ?_
      obtain ⟨o, es, ep, t, ho, hex, hd, _, hnd, hmem, _, hf, hn, _⟩ := hS
      have ec : c = (dd ns).length := by
        rw [← hn, ← Array.length_toList, ← List.length_map (f := keyOf)]
        refine nodup_len hnd dd_nodup fun k => ?_
        rw [← hmem k, dd_mem]
        simp
      have I2 : Inv X pins σ H1 { s1 with heap := h', toks := tk } := I1.kept hk
      exact call_len_set ho hex hd hf (by rw [hn] <;> omega) ⟨.int (dd ns).length, H1, I2.tok _, ⟨_, by rw [hn, ec]⟩, q1⟩
end
end DL
set_option Elab.async false
set_option linter.all false
set_option maxRecDepth 100000
set_option maxHeartbeats 1000000
namespace DL
open PySem PySem.Spec PyProof.Rows L2
variable [TabCtx]
theorem u65 {k : Nat} {A : Around} (r : Room k A) : A.units + 65 < cLine := by have := r.un; omega
/-- tests over own things -/
def brwT (b : Bool) (f : M Bool) : M Bool := fun ρ => match f (demR b ρ) with
  | .ok (d, ρ') => (match backR b ρ ρ' with
    | some ρ'' => .ok (d, ρ'')
    | none => .bad)
  | .exc c => .exc c
  | .bad => .bad
theorem pmt_brw {X : Cx} {F : Fr} {e : Expr} {fa : M Bool} (b : Bool) (h : PMT X F e fa) : PMT X F e (brwT b fa) := by
  refine PT.imp h fun σ H Q ⟨V, ρ, E, g⟩ => ⟨shown (Let σ ρ b) V H, demR b ρ, E.dem b, ?_⟩
  have g : Goal X.kw F σ ρ H V (fun _ (b : Bool) a => b = a) (match fa (demR b ρ) with
    | .ok (d, ρ') => (match backR b ρ ρ' with
      | some ρ'' => .ok (d, ρ'')
      | none => .bad)
    | .exc c => .exc c
    | .bad => .bad) Q := g
  cases ef : fa (demR b ρ) with
  | exc c => rw [ef] at g; exact g
  | bad => rw [ef] at g; exact g
  | ok pr =>
    obtain ⟨d, ρ'⟩ := pr
    rw [ef] at g
    have g : Goal X.kw F σ ρ H V (fun _ (b : Bool) a => b = a) (match backR b ρ ρ' with
      | some ρ'' => .ok (d, ρ'')
      | none => .bad) Q := g
    intro v H' V' st r
    cases eb : backR b ρ ρ' with
    | none => rw [eb] at g; exact False.elim g
    | some ρ'' =>
      rw [eb] at g
      obtain ⟨s1, s2⟩ := E.back st eb
      exact g v H' _ s1 r
theorem gsN_len {ds : List PyData} {ρ ρ' : Rho} (h : gsN ds ρ = .ok ρ') : ds.length = 0 := by
  cases ds with
  | nil => rfl
  | cons _ _ => cases h
theorem gsC_len {g : GM} {gs : List PyData → Rho → R Rho} {n : Nat} (hg : ∀ ds ρ ρ', gs ds ρ = .ok ρ' → ds.length = n) : ∀ ds ρ ρ', gsC g gs ds ρ = .ok ρ' → ds.length = n + 1 := fun ds ρ ρ' h => by
  cases ds with
  | nil => cases h
  | cons d ds =>
    have h : R.bind (g d ρ) (fun ρ' => gs ds ρ') = .ok ρ' := h
    cases e : g d ρ with
    | ok ρ1 => rw [e] at h; rw [List.length_cons, hg ds ρ1 ρ' h]
    | exc c => rw [e] at h; cases h
    | bad => rw [e] at h; cases h
end DL
set_option Elab.async false
set_option linter.all false
set_option maxRecDepth 100000
set_option maxHeartbeats 1000000
namespace DL
open PySem PySem.Spec PyProof.Rows L2
variable [TabCtx]
/-- _law_cell -/
def cellI (ns : List Int) (k : Int) : Int := if ns = [] then k * 7919 else ns.getD (k % ns.length).toNat 0 + k / ns.length * 104729
def spCell (K : KW) : Sp := fun vs H Q _ => ∃ (a : Addr) (ns : List Int) (k : Int), vs = [.ref a, .int k] ∧ SqL K H a (ns.map V.int) ∧ 0 ≤ k ∧ k < 1000 ∧ ns.length ≤ 1000 ∧ ∀ H', Same H H' → Q (.int (cellI ns k)) H'
abbrev rMulI : R2 := rI CMul fun i j => .int (i * j)
def t_cell (K : KW) : TS :=
  tSeq (tIfS (tTest (tOp (rEqD K) (tVar 0) (tLst tNil))) (tRet (tOp rMulI (tVar 1) (tC (.int 7919)))) tNext)
    (tRet (tOp (rI0 fun i j => .int (i + j)) (tOp (rIxL K) (tVar 0) (tOp (rI (fun _ j => 0 < j) fun i j => .int (i % j)) (tVar 1) (tCB (fun xs H Q => ∃ x n, xs = [x] ∧ LenV K x H n ∧ Q (.int n) H) (tCons (tVar 0) tNil))))
      (tOp rMulI (tOp (rI CDivW fun i j => .int (i / j)) (tVar 1) (tCB (fun xs H Q => ∃ x n, xs = [x] ∧ LenV K x H n ∧ Q (.int n) H) (tCons (tVar 0) tNil))) (tC (.int 104729)))))
theorem dp_ints {K : KW} {H : Hp} : ∀ ns : List Int, DpAll K H (ns.map V.int) (ns.map PyData.int)
  | [] => .nil
  | n :: ns => .cons (.int n) (dp_ints ns)
theorem ints_lay : ∀ ns : List Int, PyData.canLayAll0 (ns.map PyData.int) = true
  | [] => rfl
  | n :: ns => by
    show (PyData.canLay0 (.int n) && PyData.canLayAll0 (ns.map PyData.int)) = true
    rw [ints_lay ns]; rfl
theorem ints_depth : ∀ ns : List Int, PyData.depthAll (ns.map PyData.int) = 0
  | [] => by simp [PyData.depthAll]
  | n :: ns => by
    have := ints_depth ns
    simp [PyData.depthAll, PyData.depth, this]
theorem ints_shaped (ns : List Int) : SeqAt.shaped (.list (ns.map PyData.int)) = true := by
  unfold SeqAt.shaped
  have h1 : PyData.canLay0 (.list (ns.map PyData.int)) = true := by
    rw [PyData.canLay0]; exact ints_lay ns
  have h2 : PyData.depth (.list (ns.map PyData.int)) ≤ 64 := by
    rw [PyData.depth, ints_depth]; decide
  rw [h1, decide_eq_true h2]; rfl
theorem pure_cell {K : KW} (vs : List L2.V) (H : Hp) (Q : VK) (E : XK) (h : spCell K vs H Q E) : t_cell K { nx := fun _ H' => Q .non H', rt := Q } (L2.start ["script", "k"] vs) H := by
  obtain ⟨a, ns, k, rfl, hS, h0, h1, hl, q⟩ := h
  refine ⟨.ref a, rfl, Nat.zero_le _, fun p hp => ?_⟩
  have s1 : Same H (upd H p (.lst [])) := same_new hp
  have hS1 := s1.seq hS
  refine ⟨.list (ns.map .int), .list [], .lst hS1 (dp_ints ns), .lst (.inl (.inl upd_same)) .nil, ints_shaped ns, ints_shaped [], _, rfl, ?_⟩
  cases ns with
  | nil =>
    have e : PyData.eqv (.list (List.map PyData.int [])) (.list []) = true := by rw [PyData.eqv]; rfl
    rw [e, if_pos rfl]
    refine ⟨.int k, rfl, k, 7919, rfl, rfl, .inl ⟨by omega, by omega⟩, ?_⟩
    exact q _ s1
  | cons n ns =>
    have e : PyData.eqv (.list (List.map PyData.int (n :: ns))) (.list []) = false := by rw [PyData.eqv]; rfl
    rw [e, if_neg Bool.false_ne_true]
    have hlen : LenV K (.ref a) (upd H p (.lst [])) (n :: ns).length := .inl ⟨_, hS1, (List.length_map ..).symm⟩
    have hpos : (0 : Int) < ((n :: ns).length : Nat) := by simp only [List.length_cons]; omega
    have hm0 : 0 ≤ k % (((n :: ns).length : Nat) : Int) := Int.emod_nonneg _ (by omega)
    have hm1 : k % (((n :: ns).length : Nat) : Int) < ((n :: ns).length : Nat) := Int.emod_lt_of_pos _ hpos
    have hix : ((n :: ns).map V.int)[(k % (((n :: ns).length : Nat) : Int)).toNat]? = some (.int ((n :: ns).getD (k % (((n :: ns).length : Nat) : Int)).toNat 0)) := by
      have hlt : (k % (((n :: ns).length : Nat) : Int)).toNat < (n :: ns).length := by omega
      rw [List.getElem?_map, List.getD_eq_getElem?_getD, List.getElem?_eq_getElem hlt]
      rfl
    have hat := atI_nat hix
    rw [Int.toNat_of_nonneg hm0] at hat
    refine ⟨.ref a, rfl, .int k, rfl, .ref a, rfl, _, _, rfl, hlen, k, _, rfl, rfl, hpos, a, _, _, _, rfl, rfl, hS1, hat, .int k, rfl, .ref a, rfl, _, _, rfl, hlen, k, _, rfl, rfl, ?_, _, _, rfl, rfl, .inr ⟨by omega, by omega⟩, _, _, rfl, rfl, ?_⟩
    · refine wide_div (b := 200) hpos ?_ (by decide) (by decide)
      have : (((n :: ns).length : Nat) : Int).natAbs = (n :: ns).length := Int.natAbs_natCast _
      rw [this]
      exact Nat.lt_of_le_of_lt hl (by decide)
    · have e2 : cellI (n :: ns) k = (n :: ns).getD (k % (((n :: ns).length : Nat) : Int)).toNat 0 + k / (((n :: ns).length : Nat) : Int) * 104729 := by
        unfold cellI; rw [if_neg (by simp)]
      rw [e2] at q
      exact q _ s1
/-- _law_rounds: the new lists stand at as, their list at p -/
def Rounds (cs : List Int) (H : Hp) (p : Addr) (as : List Addr) : Prop := H p = some (.lst (as.map V.ref)) ∧ as.length = cs.length ∧ as.Nodup ∧ p ∉ as ∧ ∀ (i : Nat) (a : Addr) (c : Int), as[i]? = some a → cs[i]? = some c → H a = some (.lst [.int c, .int 0])
def roundsI (ns : List Int) (high : Int) : List Int := (List.range (max 1 (min high ns.length)).toNat).map fun i => cellI ns ((0 : Int) + (i : Nat))
def spRounds (K : KW) : Sp := fun vs H Q _ => ∃ (a : Addr) (ns : List Int) (high : Int), vs = [.ref a, .int high] ∧ SqL K H a (ns.map V.int) ∧ 0 ≤ high ∧ high < 1000 ∧ ns.length ≤ 1000 ∧ ∀ H' p as, Same H H' → Rounds (roundsI ns high) H' p as → Q (.ref p) H'
def t_rounds (K : KW) (E : XK) : TS :=
  tRet (tLc (iRng1 (tCons (tCB (fun xs H Q => ∃ i j, xs = [.int i, .int j] ∧ Q (.int (if j > i then j else i)) H) (tCons (tC (.int 1)) (tCons (tCB (fun xs H Q => ∃ i j, xs = [.int i, .int j] ∧ Q (.int (if j < i then j else i)) H) (tCons (tVar 1) (tCons (tCB (fun xs H Q => ∃ x n, xs = [x] ∧ LenV K x H n ∧ Q (.int n) H) (tCons (tVar 0) tNil)) tNil))) tNil))) tNil))
    (gName 2) tYes (tLst (tCons (tCallS (spCell K) (fun _ _ _ _ => False) (tCons (tVar 0) (tCons (tVar 2) tNil))) (tCons (tC (.int 0)) tNil))) [2])
theorem pure_rounds {K : KW} (vs : List L2.V) (H : Hp) (Q : VK) (E : XK) (h : spRounds K vs H Q E) : t_rounds K E { nx := fun _ H' => Q .non H', rt := Q } (L2.start ["script", "high", "k"] vs) H := by
  obtain ⟨a, ns, high, rfl, hS, h0, h1, hl, q⟩ := h
  refine ⟨.int high, rfl, .ref a, rfl, _, ns.length, rfl, .inl ⟨_, hS, (List.length_map ..).symm⟩, _, _, rfl, _, _, rfl, ?_⟩
  have em : (if (if ((ns.length : Nat) : Int) < high then ((ns.length : Nat) : Int) else high) > 1 then (if ((ns.length : Nat) : Int) < high then ((ns.length : Nat) : Int) else high) else 1) = max 1 (min high ns.length) := by
    by_cases c : ((ns.length : Nat) : Int) < high
    · rw [if_pos c]
      by_cases c2 : ((ns.length : Nat) : Int) > 1
      · rw [if_pos c2]; omega
      · rw [if_neg c2]; omega
    · rw [if_neg c]
      by_cases c2 : high > 1
      · rw [if_pos c2]; omega
      · rw [if_neg c2]; omega
  rw [em]
  refine ⟨_, rfl, by omega, by omega, fun D hD => ?_⟩
  refine lc_range (lo := 0) (n := (max 1 (min high ns.length)).toNat) (fun i H' => ∃ as : List Addr, Same H H' ∧ H' D = some (.lst (as.map V.ref)) ∧ as.length = i ∧ as.Nodup ∧ D ∉ as ∧ ∀ (j : Nat) (b : Addr), as[j]? = some b → H' b = some (.lst [.int (cellI ns ((0 : Int) + (j : Nat))), .int 0]))
    ⟨[], same_new hD, upd_same, rfl, List.nodup_nil, by simp, fun j b hb => by simp at hb⟩ (fun i H' hi hP => ?_) fun H' hP => ?_
  · obtain ⟨as, hs, hd, hlen, hnd, hDn, hat⟩ := hP
    have hi2 : (max 1 (min high (ns.length : Int))).toNat ≤ 1000 := by omega
    refine ⟨rfl, ?_⟩
    refine Eq.mpr (if_pos (e := False) (rfl : true = true)) ?_
    refine ⟨.ref a, rfl, .int ((0 : Int) + (i : Nat)), rfl, a, ns, (0 : Int) + (i : Nat), rfl, hs.seq hS, by omega, by omega, hl, fun H2 s2 => ⟨by show 2 ≤ sizeLine; decide, fun p hp => ?_⟩⟩
    have s3 : Same H2 (upd H2 p (.lst [.int (cellI ns ((0 : Int) + (i : Nat))), .int 0])) := same_new hp
    have hD2 : H2 D = some (.lst (as.map V.ref)) := s2 _ _ hd
    have pD : p ≠ D := fun e => by rw [e, hD2] at hp; cases hp
    have pas : p ∉ as := fun e => by
      obtain ⟨j, hj⟩ := List.mem_iff_getElem?.mp e
      have := s2 _ _ (hat j p hj)
      rw [hp] at this
      cases this
    refine ⟨as.map V.ref, by rw [upd_ne (Ne.symm pD)]; exact hD2, by rw [List.length_map, hlen]; exact Nat.lt_of_lt_of_le hi (Nat.le_trans hi2 (by decide)), as ++ [p], ?_, ?_, ?_, ?_, ?_, ?_⟩
    · intro b o e
      have nb : b ≠ D := fun z => by rw [z, hD] at e; cases e
      rw [upd_ne nb]
      exact s3 _ _ (s2 _ _ (hs _ _ e))
    · rw [upd_same, List.map_append]; rfl
    · rw [List.length_append, hlen]; rfl
    · exact List.nodup_append.mpr ⟨hnd, List.nodup_cons.mpr ⟨by simp, List.nodup_nil⟩, fun x hx y hy z => pas (by rw [List.mem_singleton.mp hy] at z; rw [← z]; exact hx)⟩
    · intro e
      rcases List.mem_append.mp e with e | e
      · exact hDn e
      · exact pD (List.mem_singleton.mp e).symm
    · intro j b hb
      by_cases hj : j < as.length
      · rw [List.getElem?_append_left hj] at hb
        have nb : b ≠ D := fun z => hDn (by rw [← z]; exact List.mem_of_getElem? hb)
        have nbp : b ≠ p := fun z => pas (by rw [← z]; exact List.mem_of_getElem? hb)
        rw [upd_ne nb, upd_ne nbp]
        exact s2 _ _ (hat j b hb)
      · rw [List.getElem?_append_right (by omega)] at hb
        have ej : j = as.length := by
          have := (List.getElem?_eq_some_iff.mp hb).1
          simp at this
          omega
        subst ej
        rw [Nat.sub_self] at hb
        cases hb
        rw [upd_ne pD, upd_same, hlen]
  · obtain ⟨as, hs, hd, hlen, hnd, hDn, hat⟩ := hP
    refine q H' D as hs ⟨hd, ?_, hnd, hDn, fun i b c h1 h2 => ?_⟩
    · unfold roundsI; rw [List.length_map, List.length_range]; exact hlen
    · rw [hat i b h1]
      unfold roundsI at h2
      rw [List.getElem?_map] at h2
      obtain ⟨j, h3, h4⟩ := Option.map_eq_some_iff.mp h2
      have h5 := (List.getElem?_eq_some_iff.mp h3).2
      rw [List.getElem_range] at h5
      subst h5 h4
      rfl
/-- the slots ahead of a turn: the draw alone is known -/
def init (n di : Nat) (c : Int) : Rho := (List.replicate n Sl.no).set di (.ow (.list [.int c, .int 0]))
def spLaw (K : KW) : Sp := fun vs H Q _ => LamX.Tabs TBS H ∧ ∃ (a : Addr) (ns : List Int), vs = [.ref a] ∧ SqL K H a (ns.map V.int) ∧ ns.length ≤ 63 ∧ ∀ H', Q (.bl true) H'
abbrev mkZ (H : Hp) (a : Addr) : Fr := ⟨hide H a, fun _ => none, none, fun _ _ _ => False, 0⟩
theorem tk_z {X : Cx} {H : Hp} {a : Addr} : Tk X (mkZ H a) := L2N.Takes.imp takesN0 fun _ _ _ _ h => h.2
theorem env_init {K : KW} {H : Hp} {a : Addr} {σ : St} {n di : Nat} {c : Int} (hn : σ.length = n) (hd : di < n) (ha : H a = some (.lst [.int c, .int 0])) (hs : σ[di]? = some (some (.ref a))) (ht : LamX.Tabs TBS H) : EnvR K (mkZ H a) H (fun _ => none) σ (init n di c) := by
  have f : ∀ {i : Nat} {t : Sl}, (init n di c)[i]? = some t → (i = di ∧ t = .ow (.list [.int c, .int 0])) ∨ t = .no := fun {i t} h => by
    unfold init at h
    rcases getElem_set_some h with ⟨e1, e2, _⟩ | ⟨_, e2⟩
    · exact .inl ⟨e1.symm, e2.symm⟩
    · rw [List.getElem?_replicate] at e2
      split at e2
      · exact .inr (Option.some.inj e2).symm
      · cases e2
  refine ⟨by simp [init, hn], .of hide_same (fun _ _ h => h) (fun _ _ h => (by cases h)) (fun _ h _ => h), fun i d h => ?_, fun i d h => ?_, fun i j b d e h1 h2 _ _ => ?_, (fun b h => by cases h), tabs_hide (fun x e => by rw [ha] at e; cases e; exact plain_lst) ht, fun _ _ => rfl⟩
  · rcases f h with ⟨_, z⟩ | z <;> cases z
  · rcases f h with ⟨rfl, z⟩ | z
    · cases z
      exact ⟨a, hs, rfl, hide_eq, _, ha, .cons (.int c) (.cons (.int 0) .nil)⟩
    · cases z
  · rcases f h1 with ⟨rfl, _⟩ | z
    · rcases f h2 with ⟨rfl, _⟩ | z
      · rfl
      · cases z
    · cases z
end DL
set_option Elab.async false
set_option linter.all false
set_option maxRecDepth 100000
set_option maxHeartbeats 1000000
namespace DL
open PySem PySem.Spec PyProof.Rows L2
variable [TabCtx]
def tBody (K : KW) (b : SM) : TS := fun D σ H => ∃ a, tS K (mkZ H a) b D σ H
theorem pss_body {X : Cx} {body : List Stmt} {b : SM} (h : ∀ H a, PMSs X (mkZ H a) body b) : PSs X body (tBody X.kw b) := ⟨fun pins s σ H D i ⟨a, g⟩ => (h H a).run pins s σ H D i g⟩
def t_law (K : KW) (hi : Int) (di : Nat) (b : SM) : TS := tSeq (tFor (iList K (tCallS (spRounds K) (fun _ _ _ _ => False) (tCons (tVar 0) (tCons (tC (.int hi)) tNil)))) (gName di) (tBody K b)) (tRet (tC (.bl true)))
theorem pure_law {K : KW} {hi : Int} {di : Nat} {b : SM} {N : List Str} (hd : di < N.length) (h0 : 0 ≤ hi) (h1 : hi < 1000) (hb : ∀ c : Int, ∃ ρ', b (init N.length di c) = .nx ρ' ∧ ρ'.length = N.length) (vs : List L2.V) (H : Hp) (Q : VK) (E : XK) (h : spLaw K vs H Q E) (hl0 : ∀ v, (L2.start N [v])[0]? = some (some v)) (hl : ∀ v, (L2.start N [v]).length = N.length) :
    t_law K hi di b { nx := fun _ H' => Q .non H', rt := Q } (L2.start N vs) H := by
  obtain ⟨ht, a, ns, rfl, hS, hm, q⟩ := h
  refine ⟨.ref a, hl0 _, a, ns, hi, rfl, hS, h0, h1, by omega, fun H1 p as s1 r1 => ⟨p, rfl, ⟨_, .inl (.inl r1.1)⟩, ?_⟩⟩
  obtain ⟨r1, r2, r3, r4, r5⟩ := r1
  refine for_list (xs := as.map V.ref) (fun i σ H' => (σ.length = N.length ∧ LamX.Tabs TBS H') ∧ H' p = some (.lst (as.map V.ref)) ∧ ∀ (j : Nat) (a : Addr) (c : Int), i ≤ j → as[j]? = some a → (roundsI ns hi)[j]? = some c → H' a = some (.lst [.int c, .int 0])) ⟨⟨hl _, ht.ext s1⟩, r1, fun j a c _ => r5 j a c⟩ (fun i σ H' _ h => .inl (.inl h.2.1)) (fun i x σ H' hx hP => ?_) fun σ H' _ => q H'
  obtain ⟨⟨p1, pt⟩, p2, p3⟩ := hP
  rw [List.getElem?_map] at hx
  obtain ⟨ai, hai, rfl⟩ := Option.map_eq_some_iff.mp hx
  have hil : i < as.length := (List.getElem?_eq_some_iff.mp hai).1
  have hc : (roundsI ns hi)[i]? = some ((roundsI ns hi)[i]'(by omega)) := List.getElem?_eq_getElem _
  obtain ⟨ρ', e1, e2⟩ := hb ((roundsI ns hi)[i]'(by omega))
  refine ⟨ai, fun _ => none, init N.length di ((roundsI ns hi)[i]'(by omega)), env_init (by rw [List.length_set]; exact p1) hd (p3 i ai _ (Nat.le_refl i) hai hc) (by rw [List.getElem?_set_self (by omega)]) pt, ?_⟩
  rw [e1]
  intro σ' H2 V' E' _
  have keep : ∀ b o, b ≠ ai → H' b = some o → nT o → H2 b = some o := fun b o nb e nt => E'.ext.h b o (by show hide H' ai b = some o; unfold hide; rw [if_neg nb]; exact e) nt
  refine ⟨⟨E'.len.trans e2, E'.tabs.1⟩, keep _ _ (fun z => r4 (by rw [z]; exact List.mem_of_getElem? hai)) p2 plain_lst.t, fun j b c hj hbj hcj => keep _ _ (fun z => ?_) (p3 j b c (by omega) hbj hcj) plain_lst.t⟩
  subst z
  have := (List.getElem?_inj hil r3).mp (hai.trans hbj.symm)
  omega
/-- an error's carrier, at any world -/
def CXE (P : Program) : CXT := fun outer H s E e s' => ∃ w, L2N.CX P w outer H s E e s'
theorem cxe_no {P : Program} {H : Hp} {s : Shared} {e : Value} {s' : Shared} (h : CXE P [] H s (fun _ _ _ => False) e s') : False := by
  obtain ⟨w, a, B, H', cls, d, h⟩ := h
  exact h.2.2.2.2.2.2.2
end DL
set_option Elab.async false
set_option linter.all false
set_option maxRecDepth 100000
set_option maxHeartbeats 1000000
namespace DL
open PySem PySem.Spec PyProof.Rows L2
variable [TabCtx]
mutual
inductive NAt (H : Hp) : NestedKey → L2.V → Prop
  | non : NAt H .none .non
  | bl (b : Bool) : NAt H (.num (if b = true then 1 else 0)) (.bl b)
  | int (i : Int) : NAt H (.num i) (.int i)
  | str (x : Str) : NAt H (.text x) (.str x)
  | tup {b : Addr} {ks : List NestedKey} {vs : List L2.V} : H b = some (.tup vs) → NAts H ks vs → NAt H (.tup ks) (.ref b)
inductive NAts (H : Hp) : List NestedKey → List L2.V → Prop
  | nil : NAts H [] []
  | cons {k : NestedKey} {v : L2.V} {ks : List NestedKey} {vs : List L2.V} : NAt H k v → NAts H ks vs → NAts H (k :: ks) (v :: vs)
end
mutual
theorem Rep.key {K : KW} {V H : Hp} (s : Same V H) : ∀ {v : L2.V} {d : PyData} {k : NestedKey}, Rep K V v d → nkey d = some k → NAt H k v
  | _, _, _, .non, h => by rw [nkey] at h; cases h; exact .non
  | _, _, _, .bl b, h => by rw [nkey] at h; cases h; exact .bl b
  | _, _, _, .int i, h => by rw [nkey] at h; cases h; exact .int i
  | _, _, _, .str x, h => by rw [nkey] at h; cases h; exact .str x
  | _, _, _, .lst _ _, h => by rw [nkey] at h; cases h
  | _, _, _, .dk _ _ _, h => by rw [nkey] at h; cases h
  | _, _, _, .dt _ _, h => by rw [nkey] at h; cases h
  | _, _, _, .tup ha r, h => by
    rw [nkey] at h
    obtain ⟨ks, h1, h2⟩ := Option.map_eq_some_iff.mp h
    subst h2
    exact .tup (s _ _ ha) (RepL.keys s r h1)
theorem RepL.keys {K : KW} {V H : Hp} (s : Same V H) : ∀ {vs : List L2.V} {ds : List PyData} {ks : List NestedKey}, RepL K V vs ds → nkeys ds = some ks → NAts H ks vs
  | _, _, _, .nil, h => by rw [nkeys] at h; cases h; exact .nil
  | _, _, _, .cons r t, h => by
    rw [nkeys] at h
    obtain ⟨k, h1, h2⟩ := Option.bind_eq_some_iff.mp h
    obtain ⟨ks, h3, h4⟩ := Option.map_eq_some_iff.mp h2
    subst h4
    exact .cons (Rep.key s r h1) (RepL.keys s t h3)
end
mutual
theorem NAt.is {P : Program} {w : World} {H : Hp} {h : Heap} (ok : HOk P w H h) : ∀ {k : NestedKey} {v : L2.V} {u : Value}, NAt H k v → RelV v u → NestedIs h k u
  | _, _, _, .non, r => by cases (show _ = Value.none from r); exact .none
  | _, _, _, .bl b, r => by cases (show _ = Value.bool b from r); exact .bool rfl
  | _, _, _, .int i, r => by obtain ⟨t, rfl⟩ := r; exact .int i t
  | _, _, _, .str x, r => by obtain ⟨t, rfl⟩ := r; exact .text x t
  | _, _, _, .tup (b := b) (vs := vs) ha q, r => by
    cases (show _ = Value.ref b from r)
    obtain ⟨_, its, rv, o, h1, h2, n, h3⟩ := (show ObjOk P w H h b (.tup vs) from ok b _ ha)
    exact .tup h1 h2 h3 (by simpa using NAts.is ok q rv)
theorem NAts.is {P : Program} {w : World} {H : Hp} {h : Heap} (ok : HOk P w H h) : ∀ {ks : List NestedKey} {vs : List L2.V} {us : List Value}, NAts H ks vs → Vals vs us → NestedAll h ks us
  | _, _, _, .nil, r => by cases r; exact .nil
  | _, _, _, .cons q t, r => by
    cases r with
    | cons r1 r2 => exact .cons (NAt.is ok q r1) (NAts.is ok t r2)
end
def KeysAt (H : Hp) (xs : List (NestedKey × Addr × L2.V)) : Prop := ∀ x ∈ xs, NAt H x.1 (.ref x.2.1) ∧ x.1.depth ≤ 8
theorem RepT.keysAt {K : KW} {V H : Hp} (s : Same V H) : ∀ {xs : List (NestedKey × Addr × L2.V)} {ps : List (PyData × PyData)}, RepT K V xs ps → KeysAt H xs
  | _, _, .nil => fun x hx => nomatch hx
  | _, _, .cons q n z r t => fun x hx => by
    rcases List.mem_cons.mp hx with e | e
    · subst e; exact ⟨q.key s n, z⟩
    · exact RepT.keysAt s t x e
def vx (xs : List (NestedKey × Addr × L2.V)) : List (NestedKey × L2.V) := xs.map fun x => (x.1, x.2.2)
abbrev PX : List (NestedKey × Addr × L2.V) → List (NestedKey × Addr × Value) → Prop := Paired fun (x : NestedKey × Addr × L2.V) (u : NestedKey × Addr × Value) => x.1 = u.1 ∧ x.2.1 = u.2.1 ∧ RelV x.2.2 u.2.2
theorem PX.val {xs : List (NestedKey × Addr × L2.V)} {us : List (NestedKey × Addr × Value)} (r : PX xs us) (k : NestedKey) : RelO (valV (vx xs) k) ((atKey us k).map (·.2)) := by
  induction r with
  | nil => exact True.intro
  | @cons p q ps qs h t ih =>
    obtain ⟨h1, _, h2⟩ := h
    by_cases e : p.1 = k
    · have e' : q.1 = k := h1.symm.trans e
      have b : atKey (q :: qs) k = some q.2 := by simp [atKey, List.find?_cons, e']
      have a : valV (vx (p :: ps)) k = some p.2.2 := valV_pos (p := (p.1, p.2.2)) e
      rw [a, b]; exact h2
    · have e' : ¬ q.1 = k := fun z => e (h1.trans z)
      have b : atKey (q :: qs) k = atKey qs k := by simp [atKey, List.find?_cons, e']
      have a : valV (vx (p :: ps)) k = valV (vx ps) k := valV_neg (p := (p.1, p.2.2)) e
      rw [a, b]; exact ih
/-- in its place, or at the end -/
def putX (xs : List (NestedKey × Addr × L2.V)) (k : NestedKey) (b : Addr) (v : L2.V) : List (NestedKey × Addr × L2.V) :=
  if (xs.any fun x => decide (x.1 = k)) = true then xs.map (fun x => if x.1 = k then (x.1, x.2.1, v) else x) else xs ++ [(k, b, v)]
theorem PX.any {xs : List (NestedKey × Addr × L2.V)} {us : List (NestedKey × Addr × Value)} (r : PX xs us) (k : NestedKey) : (xs.any fun x => decide (x.1 = k)) = (atKey us k).isSome := by
  induction r with
  | nil => rfl
  | @cons p q ps qs h t ih =>
    rw [List.any_cons]
    by_cases e : p.1 = k
    · have e' : q.1 = k := h.1.symm.trans e
      simp [atKey, List.find?_cons, e', e]
    · have e' : ¬ q.1 = k := fun z => e (h.1.trans z)
      have b : atKey (q :: qs) k = atKey qs k := by simp [atKey, List.find?_cons, e']
      rw [b, decide_eq_false e, Bool.false_or]; exact ih
theorem PX.repl {xs : List (NestedKey × Addr × L2.V)} {us : List (NestedKey × Addr × Value)} (r : PX xs us) (k : NestedKey) {y : L2.V} {u : Value} (ry : RelV y u) :
    PX (xs.map fun x => if x.1 = k then (x.1, x.2.1, y) else x) (us.map (putAt k u)) := by
  induction r with
  | nil => exact .nil
  | @cons p q ps qs h t ih =>
    rw [List.map_cons, List.map_cons]
    refine .cons ?_ ih
    obtain ⟨h1, h2, h3⟩ := h
    unfold putAt
    by_cases e : p.1 = k
    · rw [if_pos e, if_pos (h1.symm.trans e)]; exact ⟨h1, h2, ry⟩
    · rw [if_neg e, if_neg (fun z => e (h1.trans z))]; exact ⟨h1, h2, h3⟩
theorem PX.put {xs : List (NestedKey × Addr × L2.V)} {us : List (NestedKey × Addr × Value)} (r : PX xs us) (k : NestedKey) {b : Addr} {y : L2.V} {u : Value} (ry : RelV y u) : PX (putX xs k b y) (storedH us k b u) := by
  unfold putX storedH
  rw [r.any k]
  by_cases q : (atKey us k).isSome = true
  · rw [if_pos q, if_pos q]; exact r.repl k ry
  · rw [if_neg q, if_neg q]; exact Paired.snoc r ⟨rfl, rfl, ry⟩
theorem PX.keys {xs : List (NestedKey × Addr × L2.V)} {us : List (NestedKey × Addr × Value)} (r : PX xs us) : xs.map (·.1) = us.map (·.1) := by
  induction r with
  | nil => rfl
  | cons h t ih => rw [List.map_cons, List.map_cons, ih, h.1]
theorem length_putX (xs : List (NestedKey × Addr × L2.V)) (k : NestedKey) (b : Addr) (v : L2.V) : (putX xs k b v).length ≤ xs.length + 1 := by
  unfold putX
  split
  · rw [List.length_map]; omega
  · rw [List.length_append, List.length_cons, List.length_nil]; omega
theorem PX.mem {xs : List (NestedKey × Addr × L2.V)} {us : List (NestedKey × Addr × Value)} (r : PX xs us) : ∀ u ∈ us, ∃ x ∈ xs, x.1 = u.1 ∧ x.2.1 = u.2.1 := by
  induction r with
  | nil => exact fun u hu => nomatch hu
  | @cons p q ps qs h t ih =>
    intro u hu
    rcases List.mem_cons.mp hu with e | e
    · subst e; exact ⟨p, List.mem_cons_self, h.1, h.2.1⟩
    · obtain ⟨x, h1, h2⟩ := ih u e; exact ⟨x, List.mem_cons_of_mem _ h1, h2⟩
section
variable {P : Program} {w : World} {H : Hp} {h : Heap} {a : Addr}
theorem dx_of {xs : List (NestedKey × Addr × L2.V)} {ep : Nat} (ok : HOk P w H h) (e : H a = some (dX w a xs ep)) (ks : KeysAt H xs) : xs.length ≤ sizeLine ∧ (a == sysModules) = false ∧ ∃ us, PX xs us ∧ h.DictOfH (nestedKind P w) a us := by
  obtain ⟨⟨z, y, nd, us, o, es, r, h1, h2, h3, h4⟩, _, _⟩ := (show ObjOk P w H h a (dX w a xs ep) from ok a _ e)
  refine ⟨z, y, us, r, o, es, ep, h1, h2, h3, h4, fun u hu => ?_, by rw [← PX.keys r]; exact nd⟩
  obtain ⟨x, hx, e1, e2⟩ := PX.mem r u hu
  obtain ⟨n, dp⟩ := ks x hx
  rw [← e1, ← e2]
  exact ⟨n.is ok rfl, dp⟩
theorem dx_nil {ep : Nat} (ok : HOk P w H h) (e : H a = some (dX w a [] ep)) : (a == sysModules) = false ∧ h.DictOf (mixKind P w) a [] := by
  obtain ⟨⟨z, y, nd, us, o, es, r, h1, h2, h3, h4⟩, _, _⟩ := (show ObjOk P w H h a (dX w a [] ep) from ok a _ e)
  cases r
  have he : es = #[] := by
    have : es.toList = [] := h4
    exact Array.toList_inj.mp (by simpa using this)
  subst he
  exact ⟨y, o, #[], ep, h1, h2, h3, fun e he => by simp at he, .nil, List.nodup_nil⟩
end
def isTupD : PyData → Bool
  | .tuple _ => true
  | _ => false
def plainD : PyData → Bool
  | .int _ => true
  | .str _ => true
  | _ => false
def deepD (k : PyData) : Bool := match nkey k with
  | some n => decide (n.depth ≤ 8)
  | none => false
def keyEqD (a b : PyData) : Bool := decide (nkey a = nkey b)
def dlook (ps : List (PyData × PyData)) (k : PyData) : Option PyData := (ps.find? fun p => keyEqD p.1 k).map (·.2)
def keyOk (ps : List (PyData × PyData)) (k : PyData) : Bool := (plainD k && ps.all fun p => plainD p.1) || (isTupD k && deepD k && ps.all fun p => isTupD p.1)
def dput (ps : List (PyData × PyData)) (k v : PyData) : List (PyData × PyData) := if (ps.any fun p => keyEqD p.1 k) = true then ps.map (fun p => if keyEqD p.1 k = true then (p.1, v) else p) else ps ++ [(k, v)]
/-- what stands at y in the dict at a -/
def DGX (w : World) (H : Hp) (a : Addr) (y : L2.V) (r : Option L2.V) : Prop :=
  (∃ kvs k, H a = some (.dK kvs) ∧ y = kV k ∧ r = valV kvs k) ∨
  (∃ xs ep k b, H a = some (dX w a xs ep) ∧ KeysAt H xs ∧ y = .ref b ∧ NAt H k (.ref b) ∧ k.depth ≤ 8 ∧ r = valV (vx xs) k) ∨
  ∃ ep k, H a = some (dX w a [] ep) ∧ y = kV k ∧ r = none
theorem keyD_nkey (k : Key) : nkey (keyD k) = some (match k with | .inl i => .num i | .inr x => .text x) := by
  cases k with
  | inl i => show nkey (.int i) = _; rw [nkey]
  | inr x => show nkey (.str x) = _; rw [nkey]
theorem keyEq_keyD (a b : Key) : keyEqD (keyD a) (keyD b) = decide (a = b) := by
  unfold keyEqD
  rw [keyD_nkey, keyD_nkey]
  cases a with
  | inl i => cases b with
    | inl j =>
      by_cases e : i = j
      · subst e; simp
      · rw [decide_eq_false (fun z => e (by injection z with z; injection z)), decide_eq_false (fun z => e (Sum.inl.inj z))]
    | inr y => rw [decide_eq_false (fun z => by injection z with z; cases z), decide_eq_false (fun z => nomatch z)]
  | inr x => cases b with
    | inl j => rw [decide_eq_false (fun z => by injection z with z; cases z), decide_eq_false (fun z => nomatch z)]
    | inr y =>
      by_cases e : x = y
      · subst e; simp
      · rw [decide_eq_false (fun z => e (by injection z with z; injection z)), decide_eq_false (fun z => e (Sum.inr.inj z))]
theorem plain_key {K : KW} {V : Hp} {y : L2.V} {k : PyData} (r : Rep K V y k) (h : plainD k = true) : ∃ q, k = keyD q ∧ y = kV q := by
  cases r with
  | int i => exact ⟨.inl i, rfl, rfl⟩
  | str x => exact ⟨.inr x, rfl, rfl⟩
  | _ => cases h
theorem RepK.look {K : KW} {V : Hp} (q : Key) : ∀ {kvs : List (Key × L2.V)} {ps : List (PyData × PyData)}, RepK K V kvs ps → (match dlook ps (keyD q) with | some d => ∃ v, valV kvs q = some v ∧ Rep K V v d | none => valV kvs q = none)
  | _, _, .nil => rfl
  | _, _, .cons (k := k) (v := v) (kvs := kvs) (d := d) (ps := ps) r t => by
    by_cases e : k = q
    · have a : dlook ((keyD k, d) :: ps) (keyD q) = some d := by
        unfold dlook; rw [List.find?_cons_of_pos (by show keyEqD (keyD k) (keyD q) = true; rw [keyEq_keyD, decide_eq_true e])]; rfl
      rw [a]
      exact ⟨v, valV_pos (p := (k, v)) e, r⟩
    · have a : dlook ((keyD k, d) :: ps) (keyD q) = dlook ps (keyD q) := by
        unfold dlook; rw [List.find?_cons_of_neg (by show ¬ keyEqD (keyD k) (keyD q) = true; rw [keyEq_keyD, decide_eq_false e]; exact Bool.false_ne_true)]
      have b : valV ((k, v) :: kvs) q = valV kvs q := valV_neg (p := (k, v)) e
      rw [a, b]
      exact RepK.look q t
theorem RepT.look {K : KW} {V : Hp} {kd : PyData} {q : NestedKey} (hq : nkey kd = some q) : ∀ {xs : List (NestedKey × Addr × L2.V)} {ps : List (PyData × PyData)}, RepT K V xs ps → (match dlook ps kd with | some d => ∃ v, valV (vx xs) q = some v ∧ Rep K V v d | none => valV (vx xs) q = none)
  | _, _, .nil => rfl
  | _, _, .cons (k := k) (b := b) (v := v) (xs := xs) (dk := dk) (d := d) (ps := ps) _ n _ r t => by
    have ek : keyEqD dk kd = decide (k = q) := by
      unfold keyEqD
      rw [n, hq]
      by_cases e : k = q
      · subst e; simp
      · rw [decide_eq_false e, decide_eq_false (fun z => e (Option.some.inj z))]
    by_cases e : k = q
    · have a : dlook ((dk, d) :: ps) kd = some d := by
        unfold dlook; rw [List.find?_cons_of_pos (by show keyEqD dk kd = true; rw [ek, decide_eq_true e])]; rfl
      rw [a]
      exact ⟨v, valV_pos (p := (k, v)) e, r⟩
    · have a : dlook ((dk, d) :: ps) kd = dlook ps kd := by
        unfold dlook; rw [List.find?_cons_of_neg (by show ¬ keyEqD dk kd = true; rw [ek, decide_eq_false e]; exact Bool.false_ne_true)]
      have c : valV (vx ((k, b, v) :: xs)) q = valV (vx xs) q := valV_neg (p := (k, v)) e
      rw [a, c]
      exact RepT.look hq t
theorem RepT.tups {K : KW} {V : Hp} : ∀ {xs : List (NestedKey × Addr × L2.V)} {ps : List (PyData × PyData)}, RepT K V xs ps → (ps.all fun p => plainD p.1) = true → xs = []
  | _, _, .nil, _ => rfl
  | _, _, .cons q n _ _ _, h => by
    rw [List.all_cons, Bool.and_eq_true] at h
    have h := h.1
    cases q <;> cases h
theorem RepK.plains {K : KW} {V : Hp} {kvs : List (Key × L2.V)} {ps : List (PyData × PyData)} (r : RepK K V kvs ps) (h : (ps.all fun p => isTupD p.1) = true) : ps = [] := by
  cases r with
  | nil => rfl
  | @cons k _ _ _ _ _ _ =>
    rw [List.all_cons, Bool.and_eq_true] at h
    have h := h.1
    cases k <;> cases h
/-- a key that is a tuple -/
theorem tup_key {K : KW} {V H : Hp} (s : Same V H) {y : L2.V} {k : PyData} (r : Rep K V y k) (h : isTupD k = true) (hd : deepD k = true) : ∃ q b, nkey k = some q ∧ y = .ref b ∧ NAt H q (.ref b) ∧ q.depth ≤ 8 := by
  unfold deepD at hd
  cases e : nkey k with
  | none => rw [e] at hd; cases hd
  | some q =>
    rw [e] at hd
    have nq := r.key s e
    cases r with
    | @tup b _ _ _ _ => exact ⟨q, b, rfl, rfl, nq, of_decide_eq_true hd⟩
    | _ => cases h
theorem Rep.look {K : KW} {V H : Hp} (s : Same V H) {a : Addr} {y : L2.V} {ps : List (PyData × PyData)} {k : PyData} (r : Rep K V (.ref a) (.dict ps)) (ry : Rep K V y k) (ok : keyOk ps k = true) : ∃ o, DGX K.w H a y o ∧ (match dlook ps k with | some d => ∃ v, o = some v ∧ Rep K V v d | none => o = none) := by
  rcases Bool.or_eq_true_iff.mp ok with ok | ok
  · obtain ⟨o1, o2⟩ := Bool.and_eq_true_iff.mp ok
    obtain ⟨q, rfl, rfl⟩ := plain_key ry o1
    cases r with
    | @dk _ kvs _ h rk n =>
      refine ⟨valV kvs q, .inl ⟨kvs, q, s _ _ h, rfl, rfl⟩, ?_⟩
      exact RepK.look q rk
    | @dt _ xs ep _ h rt =>
      have e := rt.tups o2
      subst e
      cases rt
      exact ⟨none, .inr (.inr ⟨ep, q, s _ _ h, rfl, rfl⟩), rfl⟩
  · obtain ⟨o12, o3⟩ := Bool.and_eq_true_iff.mp ok
    obtain ⟨o1, o2⟩ := Bool.and_eq_true_iff.mp o12
    obtain ⟨q, b, e1, rfl, nq, dq⟩ := tup_key s ry o1 o2
    cases r with
    | @dk _ kvs _ h rk n => exact absurd (rk.plains o3) n
    | @dt _ xs ep _ h rt => exact ⟨valV (vx xs) q, .inr (.inl ⟨xs, ep, q, b, s _ _ h, rt.keysAt s, rfl, nq, dq, rfl⟩), RepT.look e1 rt⟩
end DL
set_option Elab.async false
set_option linter.all false
set_option maxRecDepth 100000
set_option maxHeartbeats 1000000
namespace DL
open PySem PySem.Spec PyProof.Rows L2
variable [TabCtx]
section
variable {X : Cx} {pins : List (Addr × Obj)} {σ : St} {H : Hp} {s : Shared} {a : Addr} {y v : L2.V} {u r : Value} {o : Option L2.V} {A : Around} {E : Value → Shared → Prop}
theorem room8 (hu : A.units + 10 < cLine) : (nestedKind X.prog X.w).room A.in1 := by
  show A.units + 1 + 8 < cLine
  omega
theorem x_getItem {Q : Value → Shared → Prop} (hu : A.units + 10 < cLine) (I : L2.Inv X pins σ H s) (g : DGX X.w H a y (some v)) (ry : L2.RelV y u) (h : ∀ w' s', L2.Inv X pins σ H s' → L2.RelV v w' → Q w' s') :
    wpAny (model X.prog X.w) A (getItem (.ref a) u) Q E s := by
  rcases g with ⟨kvs, k, e, ey, l⟩ | ⟨xs, ep0, k, b, e, ks, ey, eb, dp, l⟩ | ⟨ep0, k, e, ey, l⟩
  · exact d_getItem (by omega) I (.inl ⟨kvs, k, .inl e, ey, l⟩) ry h
  · subst ey
    cases (show u = Value.ref b from ry)
    obtain ⟨z, hd, us, rel, dd⟩ := dx_of I.hok e ks
    obtain ⟨w', hw, rw'⟩ := RelO.some_of (v := v) (o := (atKey us k).map (·.2)) (by rw [l]; exact PX.val rel k)
    obtain ⟨p, hp, hp2⟩ := Option.map_eq_some_iff.mp hw
    refine wpAny_getItem_heap (room8 hu) ⟨eb.is I.hok rfl, dp⟩ dd hp ?_
    rw [hp2]
    exact h w' _ (I.tok _) rw'
  · cases l
theorem x_notIn {Q : Value → Shared → Prop} (hu : A.units + 10 < cLine) (I : L2.Inv X pins σ H s) (g : DGX X.w H a y o) (ry : L2.RelV y u) (h : ∀ s', L2.Inv X pins σ H s' → Q (.bool (!o.isSome)) s') :
    wpAny (model X.prog X.w) A (compareOp .NotIn u (.ref a)) Q E s := by
  rcases g with ⟨kvs, k, e, ey, l⟩ | ⟨xs, ep0, k, b, e, ks, ey, eb, dp, l⟩ | ⟨ep0, k, e, ey, l⟩
  · exact d_notIn (by omega) I (.inl ⟨kvs, k, .inl e, ey, l⟩) ry h
  · subst ey
    cases (show u = Value.ref b from ry)
    obtain ⟨z, hd, us, rel, dd⟩ := dx_of I.hok e ks
    refine wpAny_notIn_heap (room8 hu) ⟨eb.is I.hok rfl, dp⟩ hd dd ?_
    have q := (PX.val rel k).isSome_eq
    rw [Option.isSome_map] at q
    rw [← q, ← l]
    exact h _ (I.tok _)
  · subst ey l
    obtain ⟨hd, dd⟩ := dx_nil I.hok e
    refine wpAny_notIn_of (kV_is ry) hd dd.mapOf ?_
    exact h _ (I.tok _)
theorem x_get1 {Q : Value → Shared → Prop} (hu : A.units + 10 < cLine) (I : L2.Inv X pins σ H s) (g : DGX X.w H a y o) (ry : L2.RelV y u) (h : ∀ w' s', L2.Inv X pins σ H s' → L2.RelV (o.getD .non) w' → Q w' s') :
    wpAny (model X.prog X.w) A (call (.builtin "dict.get") [.ref a, u]) Q E s := by
  rcases g with ⟨kvs, k, e, ey, l⟩ | ⟨xs, ep0, k, b, e, ks, ey, eb, dp, l⟩ | ⟨ep0, k, e, ey, l⟩
  · exact d_get1 (by omega) I (.inl ⟨kvs, k, .inl e, ey, l⟩) ry h
  · subst ey
    cases (show u = Value.ref b from ry)
    obtain ⟨z, hd, us, rel, dd⟩ := dx_of I.hok e ks
    refine call_meetsIn PySem.F.slot_dict_get dd.typeIs PySem.F.entry_dict_get (PySem.F.args_dict_get_2 _ _) (meetsH_dict_get (nestedKind X.prog X.w) a b hd) ⟨room8 hu, k, us, ⟨eb.is I.hok rfl, dp⟩, dd, h _ _ (I.tok _) ?_⟩
    rw [l]
    exact (PX.val rel k).getD rfl
  · subst ey l
    obtain ⟨hd, dd⟩ := dx_nil I.hok e
    exact call_meetsIn PySem.F.slot_dict_get dd.typeIs PySem.F.entry_dict_get (PySem.F.args_dict_get_2 _ _) (meets_dict_get (mixKind X.prog X.w) a (kV_is ry) hd) ⟨_, dd.mapOf, h _ _ (I.tok _) rfl⟩
theorem x_get2 {d : L2.V} {Q : Value → Shared → Prop} (hu : A.units + 10 < cLine) (I : L2.Inv X pins σ H s) (g : DGX X.w H a y o) (ry : L2.RelV y u) (rd : L2.RelV d r) (h : ∀ w' s', L2.Inv X pins σ H s' → L2.RelV (o.getD d) w' → Q w' s') :
    wpAny (model X.prog X.w) A (call (.builtin "dict.get") [.ref a, u, r]) Q E s := by
  rcases g with ⟨kvs, k, e, ey, l⟩ | ⟨xs, ep0, k, b, e, ks, ey, eb, dp, l⟩ | ⟨ep0, k, e, ey, l⟩
  · exact d_get2 (by omega) I (.inl ⟨kvs, k, .inl e, ey, l⟩) ry rd h
  · subst ey
    cases (show u = Value.ref b from ry)
    obtain ⟨z, hd, us, rel, dd⟩ := dx_of I.hok e ks
    refine call_meetsIn PySem.F.slot_dict_get dd.typeIs PySem.F.entry_dict_get (PySem.F.args_dict_get_3 _ _ _) (meetsH_dict_get_default (nestedKind X.prog X.w) a b hd r) ⟨room8 hu, k, us, ⟨eb.is I.hok rfl, dp⟩, dd, h _ _ (I.tok _) ?_⟩
    rw [l]
    exact (PX.val rel k).getD rd
  · subst ey l
    obtain ⟨hd, dd⟩ := dx_nil I.hok e
    exact call_meetsIn PySem.F.slot_dict_get dd.typeIs PySem.F.entry_dict_get (PySem.F.args_dict_get_3 _ _ _) (meets_dict_get_default (mixKind X.prog X.w) a (kV_is ry) hd r) ⟨_, dd.mapOf, h _ _ (I.tok _) rd⟩
/-- a is a dict -/
def IsDX (w : World) (H : Hp) (a : Addr) : Prop := (∃ kvs, H a = some (.dK kvs)) ∨ ∃ xs ep, H a = some (dX w a xs ep)
theorem isDX_at (I : L2.Inv X pins σ H s) (d : IsDX X.w H a) :
    s.TypeIs (.ref a) "dict" ∧ (∀ b, Value.ref a = .ref b → ∃ ob, s.heap.get? b = some ob ∧ ob.dict = none) ∧ (a == sysModules) = false := by
  rcases d with ⟨kvs, e⟩ | ⟨xs, ep, e⟩
  · exact isD_at I (.inl ⟨kvs, .inl e⟩)
  · obtain ⟨⟨z, y, nd, us, o, es, r, h1, h2, h3, h4⟩, _, _⟩ := (show ObjOk X.prog X.w H s.heap a (dX X.w a xs ep) from I.hok a _ e)
    refine ⟨⟨o, h1, h2.1⟩, fun b q => ?_, y⟩
    cases q
    exact ⟨o, h1, h2.2.1⟩
theorem xok_stable {w : World} {xs : List (NestedKey × Addr × L2.V)} {ep : Nat} : ∀ h1 h2 : Heap, XOk w a xs ep h1 → (∀ o, h1.get? a = some o → h2.get? a = some o) → XOk w a xs ep h2 := by
  rintro h1 h2 ⟨z, y, nd, us, o, es, r, e1, e2, e3, e4⟩ k
  exact ⟨z, y, nd, us, o, es, r, k _ e1, e2, e3, e4⟩
theorem dx_new {P : Program} {w : World} {h' : Heap} {xs : List (NestedKey × Addr × L2.V)} {us : List (NestedKey × Addr × Value)} (z : xs.length ≤ sizeLine) (hd : (a == sysModules) = false) (rel : PX xs us) (dd : h'.DictOfH (nestedKind P w) a us) :
    ∃ ep, ∀ H' : Hp, ObjOk P w H' h' a (dX w a xs ep) := by
  obtain ⟨o, es, ep, h1, h2, h3, h4, _, h5⟩ := dd
  exact ⟨ep, fun H' => ⟨⟨z, hd, by rw [PX.keys rel]; exact h5, us, o, es, rel, h1, h2, h3, h4⟩, ⟨o, h1⟩, xok_stable⟩⟩
/-- the heap behind a[y] = v -/
def DPX (w : World) (H : Hp) (a : Addr) (y v : L2.V) (H' : Nat → Hp) : Prop :=
  (∃ kvs k, H a = some (.dK kvs) ∧ y = kV k ∧ kvs.length < sizeLine ∧ H' = fun _ => upd H a (.dK (putK kvs k v))) ∨
  (∃ xs ep k b, H a = some (dX w a xs ep) ∧ KeysAt H xs ∧ y = .ref b ∧ NAt H k (.ref b) ∧ k.depth ≤ 8 ∧ xs.length < sizeLine ∧ H' = fun ep => upd H a (dX w a (putX xs k b v) ep)) ∨
  ∃ ep k, H a = some (dX w a [] ep) ∧ y = kV k ∧ H' = fun _ => upd H a (.dK [(k, v)])
theorem x_setItem {H' : Nat → Hp} {Q : Unit → Shared → Prop} (hu : A.units + 10 < cLine) (I : L2.Inv X pins σ H s) (g : DPX X.w H a y v H') (ry : L2.RelV y u) (rv : L2.RelV v r) (h : ∀ ep s', L2.Inv X pins σ (H' ep) s' → Q () s') :
    wpAny (model X.prog X.w) A (setItem (.ref a) u r) Q E s := by
  rcases g with ⟨kvs, k, e, ey, l, eH⟩ | ⟨xs, ep0, k, b, e, ks, ey, eb, dp, l, eH⟩ | ⟨ep0, k, e, ey, eH⟩
  · exact d_setItem (by omega) I (.inl ⟨kvs, k, e, ey, l, rfl⟩) ry rv fun s' J => h 0 s' (by rw [eH]; exact J)
  · subst ey eH
    cases (show u = Value.ref b from ry)
    obtain ⟨z, hd, us, rel, dd⟩ := dx_of I.hok e ks
    have hz : us.length ≤ sizeLine := by rw [← Paired.length rel]; exact z
    have hl : (putX xs k b v).length ≤ sizeLine := by have := length_putX xs k b v; omega
    refine wpAny_setItem_heap (hsz := hz) (room8 hu) ⟨eb.is I.hok rfl, dp⟩ dd fun h' dd' hs => ?_
    obtain ⟨q, es, ep, hq, _⟩ := id dd'
    obtain ⟨ep1, ob1⟩ := dx_new hl hd (PX.put rel k rv) dd'
    exact h ep1 _ (d_write I (by rw [e]; exact True.intro) hs ⟨q, hq⟩ (ob1 _))
  · subst ey eH
    obtain ⟨hd, dd⟩ := dx_nil I.hok e
    refine wpAny_setItem_pairs (hsz := Nat.zero_le _) (kV_is ry) dd fun h' dd' hs => h 0 _ ?_
    have he : ∃ q, h'.get? a = some q := let ⟨q, _, _, hq, _⟩ := dd'; ⟨q, hq⟩
    exact d_write I (by rw [e]; exact True.intro) hs he (dk_new (by show 1 ≤ sizeLine; decide) hd (.cons ⟨rfl, rv⟩ .nil) dd')
end
end DL
set_option Elab.async false
set_option linter.all false
set_option maxRecDepth 100000
set_option maxHeartbeats 1000000
namespace DL
open PySem PySem.Spec PyProof.Rows L2
variable [TabCtx]
def HidV (K : KW) (H0 V' H' : Hp) (v : L2.V) (d : PyData) : Prop := ∃ a, v = .ref a ∧ V' a = none ∧ H0 a = none ∧ OwnAt K V' H' a d
def GoalF (K : KW) (F : Fr) (σ : St) (ρ : Rho) (H V : Hp) (r : R (PyData × Rho)) (Q : VK) : Prop := match r with
  | .ok (d, ρ') => ∀ v H' V', Stp K F σ ρ ρ' H V H' V' → HidV K H V' H' v d → Q v H'
  | .exc c => ∀ H' V', Ext F.H0 F.V0 H' V' → F.W (.ref (He.ga K c)) σ H'
  | .bad => False
def GoalR (K : KW) (F : Fr) (σ : St) (H V : Hp) (Q : VK) : R PyData → Prop
  | .ok d => ∀ v H' V', Ext H V H' V' → HidV K H V' H' v d → Q v H'
  | .exc c => ∀ H' V', Ext F.H0 F.V0 H' V' → F.W (.ref (He.ga K c)) σ H'
  | .bad => False
def tMF (K : KW) (F : Fr) (f : M PyData) : TE := fun σ H Q => ∃ V ρ, EnvR K F H V σ ρ ∧ GoalF K F σ ρ H V (f ρ) Q
def PMF (X : Cx) (F : Fr) (e : Expr) (f : M PyData) : Prop := PE X e (tMF X.kw F f)
section
variable {K : KW} {F : Fr} {σ : St} {ρ ρ1 : Rho} {H V H1 V1 : Hp} {Q : VK}
theorem GoalF.after {r : R (PyData × Rho)} (st : Stp K F σ ρ ρ1 H V H1 V1) (g : GoalF K F σ ρ H V r Q) : GoalF K F σ ρ1 H1 V1 r Q := by
  cases r with
  | ok p =>
    intro v H' V' s hv
    obtain ⟨a, e, h1, h2, h3⟩ := hv
    refine g v H' V' (st.trans s) ⟨a, e, h1, ?_, h3⟩
    cases q : H a with
    | none => rfl
    | some o => exact absurd h2 (st.th a (by rw [q]; exact fun z => nomatch z))
  | exc c => exact g
  | bad => exact g
theorem GoalF.bind {α β : Type} {rep1 : Hp → β → α → Prop} {f : M α} {k : α → M PyData} {Q1 : β → Hp → Prop} (g : GoalF K F σ ρ H V (M.bind f k ρ) Q)
    (h : ∀ b a H' V' ρ', Stp K F σ ρ ρ' H V H' V' → rep1 V' b a → GoalF K F σ ρ' H' V' (k a ρ') Q → Q1 b H') : Goal K F σ ρ H V rep1 (f ρ) Q1 := by
  unfold M.bind at g
  cases e : f ρ with
  | ok p =>
    obtain ⟨a, ρ'⟩ := p
    rw [e] at g
    exact fun b H' V' st r => h b a H' V' ρ' st r (GoalF.after st g)
  | exc c => rw [e] at g; exact g
  | bad => rw [e] at g; exact g
theorem GoalF.opt {o : Option PyData} (E : EnvR K F H V σ ρ) (g : GoalF K F σ ρ H V (M.opt o ρ) Q) : ∃ z, o = some z ∧ ∀ v H' V', Ext H V H' V' → HidV K H V' H' v z → Q v H' := by
  cases o with
  | none => exact False.elim g
  | some z => exact ⟨z, rfl, fun v H' V' e r => g v H' V' (E.step e) r⟩
theorem GoalF.lift {m : R PyData} (E : EnvR K F H V σ ρ) (g : GoalF K F σ ρ H V (M.lift m ρ) Q) : GoalR K F σ H V Q m := by
  cases m with
  | ok d => exact fun v H' V' e r => g v H' V' (E.step e) r
  | exc c => exact g
  | bad => exact g
theorem GoalF.ex {f : M PyData} {k : PyData → SM} {D : Ends} {Q1 : VK} (g : GoalS K F V (exO f k ρ) D)
    (h : ∀ v d H' V' ρ', Stp K F σ ρ ρ' H V H' V' → HidV K H V' H' v d → GoalS K F V' (k d ρ') D → Q1 v H') : GoalF K F σ ρ H V (f ρ) Q1 := by
  unfold exO at g
  cases e : f ρ with
  | ok p =>
    obtain ⟨a, ρ'⟩ := p
    rw [e] at g
    exact fun b H' V' st r => h b a H' V' ρ' st r (GoalS.mono st.v g)
  | exc c => rw [e] at g; exact fun H' V' x => g σ H' V' x
  | bad => rw [e] at g; exact g
theorem Stp.notOwn (E : EnvR K F H V σ ρ) (st : Stp K F σ ρ ρ1 H V H1 V1) {a : Addr} (h : H a = none) : ¬ IsOwn σ ρ1 a := fun z => by
  obtain ⟨i, d, q1, q2⟩ := st.own a z
  obtain ⟨b, w1, w2, w3, w4⟩ := E.ow i d q1
  rw [q2] at w1
  cases w1
  obtain ⟨o, q5, _⟩ := w4.there
  rw [h] at q5
  cases q5
theorem OwnAt.show {a : Addr} {d : PyData} (o : OwnAt K V H a d) (hv : V a = none) : ∃ u, H a = some u ∧ Rep K (upd V a u) (.ref a) d := by
  have sv : ∀ u, Same V (upd V a u) := fun u => same_new hv
  cases d with
  | list ds => obtain ⟨vs, e, r⟩ := o; exact ⟨_, e, .lst upd_same (r.mono (sv _))⟩
  | dict ps =>
    rcases o with ⟨kvs, e, r, n⟩ | ⟨xs, ep, e, r⟩
    · exact ⟨_, e, .dk upd_same (r.mono (sv _)) n⟩
    · exact ⟨_, e, .dt upd_same (r.mono (sv _))⟩
  | _ => exact o.elim
/-- a hidden thing comes to be seen -/
theorem Stp.show (E : EnvR K F H V σ ρ) (st : Stp K F σ ρ ρ1 H V H1 V1) {a : Addr} {u : HO} (h0 : H a = none) (h1 : V1 a = none) (h2 : H1 a = some u) : Stp K F σ ρ ρ1 H V H1 (upd V1 a u) := by
  have sv : Same V1 (upd V1 a u) := same_new h1
  refine ⟨st.env.show h2 h1 (E.ext.free h0) (st.notOwn E h0), st.v.trans sv, st.keep, st.own, st.shs, fun b q1 q2 => ?_, st.th⟩
  rw [upd_ne (fun z => q2 (by rw [z]; exact h0))]
  exact st.f b q1 q2
theorem EnvR.setHid (E : EnvR K F H V σ ρ) {i : Nat} {p : Addr} {d : PyData} (hv : V p = none) (h0 : F.H0 p = none) (hn : ¬ IsOwn σ ρ p) (r : OwnAt K V H p d) (hl : i ≠ F.ls ∨ F.lent = none) : EnvR K F H V (σ.set i (some (.ref p))) (ρ.set i (.ow d)) := by
  have hlen := E.len
  refine ⟨by simp [hlen], E.ext, fun j e h => ?_, fun j e h => ?_, fun j k a e e' h1 h2 h3 h4 => ?_, fun a ha => ?_, E.tab⟩
  · rcases getElem_set_some h with ⟨_, q, _⟩ | ⟨n, q⟩
    · cases q
    · rw [List.getElem?_set_ne n]; exact E.sh j e q
  · rcases getElem_set_some h with ⟨rfl, q, hi⟩ | ⟨n, q⟩
    · cases q
      exact ⟨p, List.getElem?_set_self (by omega), hv, h0, r⟩
    · rw [List.getElem?_set_ne n]; exact E.ow j e q
  · rcases getElem_set_some h1 with ⟨rfl, _, _⟩ | ⟨n1, q1⟩
    · rcases getElem_set_some h2 with ⟨rfl, _, _⟩ | ⟨n2, q2⟩
      · rfl
      · rcases getElem_set_some h3 with ⟨_, q3, _⟩ | ⟨n3, _⟩
        · rcases getElem_set_some h4 with ⟨z, _, _⟩ | ⟨_, q4⟩
          · exact absurd z n2
          · exact absurd ⟨k, _, q2, by rw [q4, ← q3]⟩ hn
        · exact absurd rfl n3
    · rcases getElem_set_some h2 with ⟨rfl, _, _⟩ | ⟨n2, q2⟩
      · rcases getElem_set_some h4 with ⟨_, q4, _⟩ | ⟨n3, _⟩
        · rcases getElem_set_some h3 with ⟨z, _, _⟩ | ⟨_, q3⟩
          · exact absurd z n1
          · exact absurd ⟨j, _, q1, by rw [q3, ← q4]⟩ hn
        · exact absurd rfl n3
      · rw [List.getElem?_set_ne n1] at h3
        rw [List.getElem?_set_ne n2] at h4
        exact E.dis j k a e e' q1 q2 h3 h4
  · rcases hl with hl | hl
    · rw [List.getElem?_set_ne hl]; exact E.lent a ha
    · rw [hl] at ha; cases ha
end
section
variable {X : Cx} {F : Fr} {e k : Expr} {es : List Expr} {fa fk : M PyData} {fs : M (List PyData)} {pos : Pos}
theorem PMF.pm (h : PMF X F e fa) : PM X F e fa := by
  refine PE.imp h fun σ H Q ⟨V, ρ, E, g⟩ => ⟨V, ρ, E, ?_⟩
  cases ef : fa ρ with
  | exc c => rw [ef] at g; exact g
  | bad => rw [ef] at g; exact g
  | ok pr =>
    obtain ⟨d, ρ'⟩ := pr
    rw [ef] at g
    intro v H' V' st hv
    obtain ⟨a, rfl, h1, h2, h3⟩ := hv
    obtain ⟨u, q1, q2⟩ := h3.show h1
    exact g _ H' _ (st.show E h2 h1 q1) q2
/-- x = e, e a new thing, x keeps it alone -/
def ownFO (i : Nat) (a : M PyData) : SM := exO a fun d ρ => .nx (ρ.set i (.ow d))
theorem pms_ownF (i : Nat) {x : Str} {pos' : Pos} (he : PMF X F e fa) (hN : X.N.Nodup) (hi : X.N[i]? = some x := by rfl) (hx : Loc X.env.scope x := by first | exact Or.inl rfl | exact Or.inr rfl) (hl : i ≠ F.ls ∨ F.lent = none := by first | exact Or.inr rfl | exact Or.inl (ne_ls rfl))
    (hs : swapsWith e (some (.Name x pos')) pos.line X.env = pure false := by rfl) (hf : X.fn x = true ∨ X.env.scope.names.lookup x = some .local := by first | exact .inl rfl | exact .inr rfl | assumption) :
    PMS X F (.Assign [.Name x pos'] e pos) (ownFO i fa) := by
  refine PS.imp (ps_set hN hi hx he hs hf) fun D σ H ⟨V, ρ, E, g⟩ => ⟨V, ρ, E, GoalF.ex g fun v d H1 V1 ρ1 st1 hv g1 => ?_⟩
  obtain ⟨a, rfl, h1, h2, h3⟩ := hv
  exact g1 _ _ _ (st1.env.setHid h1 (E.ext.free h2) (st1.notOwn E h2) h3 hl) (Same.refl _)
theorem pmf_lst {posl : Pos} (ha : PMA X F es fs) : PMF X F (.List es posl) (opA gLstD fs) := by
  refine PE.imp (pe_lst ha) fun σ H Q ⟨V, ρ, E, g0⟩ => ⟨V, ρ, E, GoalF.bind g0 fun xs ds H1 V1 ρ1 st1 r1 g1 => ?_⟩
  obtain ⟨z, ez, q⟩ := GoalF.opt st1.env g1
  unfold gLstD at ez
  split at ez
  · rename_i hl
    cases ez
    exact ⟨by rw [r1.length]; exact Nat.le_trans hl lim_le, fun p hp => q _ _ _ (Ext.hid st1.env.sub hp) ⟨p, rfl, st1.env.sub.free hp, hp, xs, upd_same, r1⟩⟩
  · cases ez
def tDNewX (w : World) : TE := fun _ H Q => ∀ p ep, H p = none → Q (.ref p) (upd H p (dX w p [] ep))
theorem pe_dnewX : PE X (.Dict [] [] pos) (tDNewX X.w) := ⟨fun pins s σ H Q I h => by
  obtain ⟨ep, ob⟩ := dx_new (P := X.prog) (w := X.w) (Nat.zero_le _) (beq_eq_false_iff_ne.mpr (Ne.symm (Nat.ne_of_lt I.big))) .nil (Heap.DictOfH.new s.heap)
  exact wpAny_Dict_empty ⟨.ref s.heap.objs.size, _, I.laid (a := s.heap.objs.size) (o := dX X.w s.heap.objs.size [] ep) (t' := s.toks) (fun _ _ q => Heap.get?_push_of_some _ q) (Nat.le_refl _) (ob _), rfl, h _ ep (I.hok.fresh (Nat.le_refl _))⟩⟩
theorem pmf_dnew : PMF X F (.Dict [] [] pos) (cD (.dict [])) := by
  refine PE.imp pe_dnewX fun σ H Q ⟨V, ρ, E, g0⟩ p ep hp => ?_
  exact g0 _ _ _ (E.step (Ext.hid E.sub hp)) ⟨p, rfl, E.sub.free hp, hp, .inr ⟨[], ep, upd_same, .nil⟩⟩
end
end DL
set_option Elab.async false
set_option linter.all false
set_option maxRecDepth 100000
set_option maxHeartbeats 1000000
namespace DL
open PySem PySem.Spec PyProof.Rows L2
variable [TabCtx]
def gCutL (lo hi : Option Int) : PyData → Option PyData
  | .list ds => some (.list (cutD ds lo hi))
  | _ => none
def slcL (a : M PyData) (lo hi : M (Option Int)) : M PyData := M.bind a fun x => M.bind lo fun l => M.bind hi fun h => M.opt (gCutL l h x)
/-- the list is done, and not seen yet -/
theorem LI.hid {K : KW} {F : Fr} {vs : List Nat} {σ : St} {ρ1 ρ' : Rho} {H1 V1 H' V' : Hp} {D : Addr} {ys : List L2.V} {acc : List PyData} (E : EnvR K F H1 V1 σ ρ1) (I : LI K F vs σ ρ1 H1 V1 D (L2.wipe σ vs) (wipeR ρ' vs) H' V' ys acc) (hv : ∀ i ∈ vs, isOw ρ1[i]? = false) :
    Stp K F σ ρ1 (resR ρ1 ρ' vs) H1 V1 H' V' ∧ V' D = none ∧ H' D = some (.lst ys) := by
  refine ⟨⟨E.restore I.env I.sv hv, I.sv, I.kp, fun b h => ?_, fun j d q => ?_, I.fr, I.th⟩, I.vD, I.hD⟩
  · obtain ⟨j, d, h1, h2⟩ := h
    have nj := resR_ow hv h1
    rw [resR_out nj] at h1
    exact I.ho b ⟨j, d, by rw [wipeR_out nj]; exact h1, by rw [wipe_outL nj]; exact h2⟩
  · by_cases hj : j ∈ vs
    · by_cases hl : j < ρ'.length
      · rw [resR_in hj hl] at q
        have h' : ρ1.getD j .no = .sh d := Option.some.inj q
        rw [List.getD_eq_getElem?_getD] at h'
        cases q' : ρ1[j]? with
        | none => rw [q'] at h'; cases h'
        | some s =>
          rw [q'] at h'
          have h' : s = .sh d := h'
          rw [h']
      · rw [List.getElem?_eq_none (by rw [resR_len]; omega)] at q; cases q
    · rw [resR_out hj] at q
      exact I.sh j d hj (by rw [wipeR_out hj]; exact q)
section
variable {X : Cx} {F : Fr}
theorem lcF_run {vs : List Nat} {l : R (List PyData × Rho)} {K : KW} {σ : St} {ρ1 : Rho} {H1 V1 : Hp} {Q : VK} (g1 : GoalF K F σ ρ1 H1 V1 (if (vs.any fun i => isOw ρ1[i]?) = true then .bad else (match l with
      | .ok (acc, ρ') => .ok (.list acc, resR ρ1 ρ' vs)
      | _ => .bad)) Q) : ∃ acc ρ', l = .ok (acc, ρ') ∧ (∀ i ∈ vs, isOw ρ1[i]? = false) ∧ ∀ b H' V', Stp K F σ ρ1 (resR ρ1 ρ' vs) H1 V1 H' V' → HidV K H1 V' H' b (.list acc) → Q b H' := by
  by_cases hany : (vs.any fun i => isOw ρ1[i]?) = true
  · rw [if_pos hany] at g1
    exact False.elim g1
  · rw [if_neg hany] at g1
    have hv : ∀ i ∈ vs, isOw ρ1[i]? = false := fun i hi => by
      cases q : isOw ρ1[i]? with
      | false => rfl
      | true => exact absurd (List.any_eq_true.mpr ⟨i, hi, q⟩) hany
    cases l with
    | exc c => exact False.elim g1
    | bad => exact False.elim g1
    | ok pr =>
      obtain ⟨acc, ρ'⟩ := pr
      exact ⟨acc, ρ', rfl, hv, g1⟩
theorem lcF_of {K : KW} {vs is : List Nat} {fi : M (List PyData)} {g : GM} {ft : M Bool} {fe : M PyData} (his : ∀ i ∈ is, i ∈ vs) (hl : F.ls ∉ vs ∨ F.lent = none) {σ : St} {H : Hp} {Q : VK} (h : tMF K F (lcM vs fi g ft fe) σ H Q) :
    tLc (tI K F fi) (tGM K F.nox is g) (tMT K F.nox ft) (tM K F.nox fe) vs σ H Q := by
  obtain ⟨V, ρ, E, g0⟩ := h
  refine ⟨V, ρ, E, GoalF.bind g0 fun J ds H1 V1 ρ1 st1 it g1 => fun D hD => ?_⟩
  obtain ⟨acc, ρ', hL, hv, q⟩ := lcF_run g1
  refine ⟨fun i m H' => m = ds.length - i ∧ i ≤ ds.length ∧ ∃ V' ρc ys accd, LI K F vs σ ρ1 H1 V1 D (L2.wipe σ vs) (wipeR ρc vs) H' V' ys accd ∧ lcLoop vs g ft fe (ds.drop i) ρc accd = .ok (acc, ρ'),
    ⟨ds.length, rfl, Nat.zero_le _, V1, ρ1, [], [], (LI.start st1.env hD).wipe vs hl, hL⟩, ?_⟩
  rintro i m H' ⟨rfl, hle, V', ρc, ys, accd, I, hE⟩
  obtain ⟨i1, i2⟩ := it i H' V' I.sv I.env.sub
  by_cases hlt : i < ds.length
  · obtain ⟨go, yl⟩ := i1 _ (List.getElem?_eq_getElem hlt)
    rw [List.drop_eq_getElem_cons hlt] at hE
    refine .inr ⟨go, fun H2 => ∃ V' ρc ys accd, LI K F vs σ ρ1 H1 V1 D (L2.wipe σ vs) (wipeR ρc vs) H2 V' ys accd ∧ lcLoop vs g ft fe (ds.drop (i + 1)) ρc accd = .ok (acc, ρ'), fun H2 h => ⟨ds.length - (i + 1), by omega, rfl, hlt, h⟩, fun x H2 y => ?_⟩
    obtain ⟨V2, x2, r2⟩ := yl x H2 y
    have I2 := I.ext x2
    refine ⟨V2, wipeR ρc vs, ds[i], I2.env.nox, r2, ?_⟩
    unfold lcLoop at hE
    cases eg : g ds[i] (wipeR ρc vs) with
    | exc c => rw [eg] at hE; cases hE
    | bad => rw [eg] at hE; cases hE
    | ok ρ3 =>
      rw [eg] at hE
      intro σ3 H3 V3 E3 x3 w3 o3 p3
      have ew : L2.wipe σ3 vs = L2.wipe σ vs := (w3 vs his).trans (wipe_wipe σ vs)
      have I3 := I2.tgt E3.unnox x3 o3 p3 his
      refine ⟨ew, V3, ρ3, E3, ?_⟩
      have hE : (match ft ρ3 with
        | .ok (true, ρ2) => (match fe ρ2 with
          | .ok (y, ρ3) => if accd.length < LIM then lcLoop vs g ft fe (ds.drop (i + 1)) ρ3 (accd ++ [y]) else .bad
          | _ => .bad)
        | .ok (false, ρ2) => lcLoop vs g ft fe (ds.drop (i + 1)) ρ2 accd
        | _ => .bad) = .ok (acc, ρ') := hE
      show Goal K F.nox σ3 ρ3 H3 V3 (fun _ (b : Bool) a => b = a) (ft ρ3) _
      cases et : ft ρ3 with
      | exc c => rw [et] at hE; cases hE
      | bad => rw [et] at hE; cases hE
      | ok pt =>
        obtain ⟨bt, ρ4⟩ := pt
        rw [et] at hE
        intro b' H4 V4 st4 eb
        subst eb
        have I4 := I3.stp st4.unnox
        cases b' with
        | false =>
          show if false = true then _ else _
          rw [if_neg Bool.false_ne_true]
          have I5 := I4.wipe vs hl
          rw [ew] at I5
          exact ⟨V4, ρ4, ys, accd, I5, hE⟩
        | true =>
          rw [if_pos rfl]
          refine ⟨V4, ρ4, st4.env, ?_⟩
          have hE : (match fe ρ4 with
            | .ok (y, ρ3) => if accd.length < LIM then lcLoop vs g ft fe (ds.drop (i + 1)) ρ3 (accd ++ [y]) else .bad
            | _ => .bad) = .ok (acc, ρ') := hE
          cases ee : fe ρ4 with
          | exc c => rw [ee] at hE; cases hE
          | bad => rw [ee] at hE; cases hE
          | ok pe =>
            obtain ⟨yd, ρ5⟩ := pe
            rw [ee] at hE
            have hE : (if accd.length < LIM then lcLoop vs g ft fe (ds.drop (i + 1)) ρ5 (accd ++ [yd]) else .bad) = .ok (acc, ρ') := hE
            intro yv H5 V5 st5 ry
            by_cases hlm : accd.length < LIM
            · rw [if_pos hlm] at hE
              have I5 := I4.stp st5.unnox
              have I6 := (I5.app ry).wipe vs hl
              rw [ew] at I6
              exact ⟨ys, I5.hD, by rw [I5.rl.length]; exact Nat.lt_trans hlm lim_lt, V5, ρ5, _, _, I6, hE⟩
            · rw [if_neg hlm] at hE; cases hE
  · have ei : i = ds.length := by omega
    subst ei
    rw [List.drop_length] at hE
    have hE : R.ok (accd, ρc) = R.ok (acc, ρ') := hE
    injection hE with hE
    injection hE with ea er
    subst ea er
    obtain ⟨s1, s2, s3⟩ := LI.hid st1.env I hv
    exact .inl ⟨i2 rfl, q _ _ _ s1 ⟨D, rfl, s2, hD, ys, s3, I.rl⟩⟩
end
end DL
set_option Elab.async false
set_option linter.all false
set_option maxRecDepth 100000
set_option maxHeartbeats 1000000
namespace DL
open PySem PySem.Spec PyProof.Rows L2
variable [TabCtx]
def whileN (t : M Bool) (body : SM) : Nat → Rho → O
  | 0, _ => .bad
  | n + 1, ρ => match t ρ with
    | .ok (true, ρ1) => (match body ρ1 with
      | .nx ρ2 => whileN t body n ρ2
      | .ct ρ2 => whileN t body n ρ2
      | .bk ρ2 => .nx ρ2
      | .rt x ρ2 => .rt x ρ2
      | .rf x ρ2 => .rf x ρ2
      | .exc c => .exc c
      | .bad => .bad)
    | .ok (false, ρ1) => .nx ρ1
    | .exc c => .exc c
    | .bad => .bad
def whileO (n : Nat) (t : M Bool) (body : SM) : SM := fun ρ => whileN t body n ρ
section
variable {X : Cx} {F : Fr} {c : Expr} {body : List Stmt} {pos : Pos} {ft : M Bool} {fb : SM}
theorem pms_while (n : Nat) (hp : PassesOwn (model X.prog X.w) X.A X.env X.xe) (hc : PMT X F c ft) (hb : PMSs X F body fb) : PMS X F (.While c body [] pos) (whileO n ft fb) := by
  refine PS.imp (ps_while hp hc hb) fun D σ H ⟨V, ρ, E, g0⟩ => ⟨fun m σ' H' => ∃ V' ρ', EnvR X.kw F H' V' σ' ρ' ∧ Same V V' ∧ GoalS X.kw F V' (whileN ft fb m ρ') D, ⟨n, V, ρ, E, Same.refl _, g0⟩, ?_⟩
  rintro m σ' H' ⟨V', ρ', E', sv, gl⟩
  refine ⟨V', ρ', E', ?_⟩
  cases m with
  | zero => exact False.elim gl
  | succ m =>
    unfold whileN at gl
    show Goal X.kw F σ' ρ' H' V' (fun _ (b : Bool) a => b = a) (ft ρ') _
    cases et : ft ρ' with
    | exc c => rw [et] at gl; exact fun H2 V2 x => gl σ' H2 V2 x
    | bad => rw [et] at gl; exact gl
    | ok pr =>
      obtain ⟨b, ρ1⟩ := pr
      rw [et] at gl
      intro b' H1 V1 st1 eb
      subst eb
      cases b' with
      | false =>
        show if false = true then _ else _
        rw [if_neg Bool.false_ne_true]
        exact gl σ' H1 V1 st1.env st1.v
      | true =>
        rw [if_pos rfl]
        refine ⟨fun σ2 H2 => ∃ V2 ρ2, EnvR X.kw F H2 V2 σ2 ρ2 ∧ Same V V2 ∧ GoalS X.kw F V2 (whileN ft fb m ρ2) D, fun σ2 H2 h => ⟨m, Nat.lt_succ_self m, h⟩, V1, ρ1, st1.env, ?_⟩
        have gl : GoalS X.kw F V' (match fb ρ1 with
          | .nx ρ2 => whileN ft fb m ρ2
          | .ct ρ2 => whileN ft fb m ρ2
          | .bk ρ2 => .nx ρ2
          | .rt x ρ2 => .rt x ρ2
          | .rf x ρ2 => .rf x ρ2
          | .exc c => .exc c
          | .bad => .bad) D := gl
        have v3 : Same V' V1 := st1.v
        cases eb : fb ρ1 with
        | nx ρ4 => rw [eb] at gl; exact fun σ4 H4 V4 E4 v4 => ⟨V4, ρ4, E4, (sv.trans v3).trans v4, GoalS.mono (v3.trans v4) gl⟩
        | ct ρ4 => rw [eb] at gl; exact fun σ4 H4 V4 E4 v4 => ⟨V4, ρ4, E4, (sv.trans v3).trans v4, GoalS.mono (v3.trans v4) gl⟩
        | bk ρ4 => rw [eb] at gl; exact fun σ4 H4 V4 E4 v4 => gl σ4 H4 V4 E4 (v3.trans v4)
        | rt x ρ4 => rw [eb] at gl; exact fun v σ4 H4 V4 E4 v4 => gl v σ4 H4 V4 E4 (v3.trans v4)
        | rf x ρ4 => rw [eb] at gl; exact fun v σ4 H4 V4 E4 v4 => gl v σ4 H4 V4 E4 (v3.trans v4)
        | exc c => rw [eb] at gl; exact gl
        | bad => rw [eb] at gl; exact gl
end
section
variable {X : Cx} {F : Fr} {e : Expr} {fa : M PyData} {pos : Pos}
def retF (a : M PyData) : SM := exO a fun d ρ => .rf d ρ
end
/-- a list of things that nothing can change -/
def immC : PyData → Bool
  | .list ds => immL ds
  | _ => false
def immR : R PyData → R PyData
  | .ok d => if immC d = true then .ok d else .bad
  | .exc c => .exc c
  | .bad => .bad
def callF (m : List PyData → R PyData) (a : M (List PyData)) : M PyData := M.bind a fun ds => M.lift (immR (m ds))
end DL
set_option Elab.async false
set_option linter.all false
set_option maxRecDepth 100000
set_option maxHeartbeats 1000000
namespace DL
open PySem PySem.Spec PyProof.Rows L2
variable [TabCtx]
def gNotInX : PyData → PyData → Option PyData := fun k d => match d with
  | .dict ps => if keyOk ps k = true then some (.bool (!(dlook ps k).isSome)) else none
  | _ => none
def gIxX : PyData → PyData → Option PyData := fun d k => match d with
  | .dict ps => if keyOk ps k = true then dlook ps k else none
  | _ => none
def rNotInX (w : World) : R2 := fun x y H Q => ∃ a o, y = .ref a ∧ DGX w H a x o ∧ Q (.bl (!o.isSome)) H
section
variable {X : Cx}
theorem op_notInX (hu : X.A.units + 64 < cLine) : OpR X (compareOp .NotIn) (rNotInX X.w) := by
  intro pins s σ H x y v u Q I rx ry h
  obtain ⟨a, o, rfl, g, q⟩ := h
  cases ry
  exact x_notIn (by omega) I g rx fun s' I' => ⟨.bl (!o.isSome), H, I', rfl, q⟩
end
theorem rep_ref {K : KW} {V : Hp} {y : L2.V} {ps : List (PyData × PyData)} (r : Rep K V y (.dict ps)) : ∃ a, y = .ref a ∧ Rep K V (.ref a) (.dict ps) := by
  cases r with
  | dk h r n => exact ⟨_, rfl, .dk h r n⟩
  | dt h r => exact ⟨_, rfl, .dt h r⟩
theorem look_some {α : Type} {P : α → PyData → Prop} {o : Option α} {r : Option PyData} (h : match r with | some d => ∃ v, o = some v ∧ P v d | none => o = none) : o.isSome = r.isSome := by
  cases r with
  | none => have h : o = none := h; rw [h]; rfl
  | some d => obtain ⟨v, h, _⟩ := (show ∃ v, o = some v ∧ P v d from h); rw [h]; rfl
theorem od_notInX {K : KW} : OpD K (rNotInX K.w) gNotInX := by
  intro x y dx dy z H V Q s rx ry e q
  cases dy with
  | dict ps =>
    obtain ⟨ok, rfl⟩ := ite_some (show (if keyOk ps dx = true then some (PyData.bool (!(dlook ps dx).isSome)) else none) = some z from e)
    obtain ⟨a, rfl, ra⟩ := rep_ref ry
    obtain ⟨o, g, l⟩ := Rep.look s ra rx ok
    refine ⟨a, o, rfl, g, ?_⟩
    rw [look_some l]
    exact q _ _ _ (Ext.refl s) (.bl _)
  | _ => cases e
section
variable {X : Cx} {F : Fr} {o k x : Expr} {pos : Pos} {fo fk fx : M PyData}
theorem isDX_rep {K : KW} {V H : Hp} (s : Same V H) {a : Addr} {ps : List (PyData × PyData)} (r : Rep K V (.ref a) (.dict ps)) : IsDX K.w H a := by
  cases r with
  | dk h _ _ => exact .inl ⟨_, s _ _ h⟩
  | dt h _ => exact .inr ⟨_, _, s _ _ h⟩
def tDGX (w : World) (td ty : TE) : TE := fun σ H Q => td σ H fun x H1 => ty σ H1 fun y H2 => ∃ a v, x = .ref a ∧ IsDX w H2 a ∧ DGX w H2 a y (some v) ∧ Q v H2
theorem pe_dgetX' {td ty : TE} (hu : X.A.units + 64 < cLine) (ho : PE X o td) (hi : PE X k ty) (hs : NoSl k) : PE X (.Subscript o k pos) (tDGX X.w td ty) := by
  refine ⟨fun pins s σ H Q I h => ?_⟩
  refine subD_of PySem.F.slot_dict_getitem.lookup hs (thn (ho.run pins s σ H _ I h) fun u s1 ⟨x, H1, I1, rx, q1⟩ => thn (hi.run pins s1 σ H1 _ I1 q1) fun iv s2 ⟨y, H2, I2, ry, a, v, ex, isd, g, q2⟩ => ?_)
  subst ex
  obtain rfl : u = Value.ref a := rx
  exact ⟨(isDX_at I2 isd).1, x_getItem (by omega) I2 g ry fun w' s3 I3 rw' => ⟨v, H2, I3, rw', q2⟩⟩
/-- d[k] -/
theorem pm_dix (hu : X.A.units + 64 < cLine) (ho : PM X F o fo) (hk : PM X F k fk) (hs : NoSl k := by exact fun _ _ => rfl) : PM X F (.Subscript o k pos) (op2 gIxX fo fk) := by
  refine PE.imp (pe_dgetX' hu ho hk hs) fun σ H Q ⟨V, ρ, E, g0⟩ => ⟨V, ρ, E, Goal.bind g0 fun x dx H1 V1 ρ1 st1 r1 g1 => ⟨V1, ρ1, st1.env, Goal.bind g1 fun y dy H2 V2 ρ2 st2 r2 g2 => ?_⟩⟩
  obtain ⟨z, ez, q⟩ := Goal.opt st2.env g2
  have s := st2.env.sub
  cases dx with
  | dict ps =>
    have ez : (if keyOk ps dy = true then dlook ps dy else none) = some z := ez
    by_cases ok : keyOk ps dy = true
    · rw [if_pos ok] at ez
      obtain ⟨a, rfl, ra⟩ := rep_ref (r1.mono st2.v)
      obtain ⟨ov, g, l⟩ := Rep.look s ra r2 ok
      rw [ez] at l
      obtain ⟨v, rfl, rv⟩ := l
      exact ⟨a, v, rfl, isDX_rep s ra, g, q _ _ _ (Ext.refl s) rv⟩
    · rw [if_neg ok] at ez; cases ez
  | _ => cases ez
/-- d.get(k), d.get(k, x) -/
def isDict : PyData → Bool
  | .dict _ => true
  | _ => false
def gGet1 (d k : PyData) : Option PyData := match d with
  | .dict ps => if keyOk ps k = true then some ((dlook ps k).getD .none) else none
  | _ => none
def gGet2 (d k x : PyData) : Option PyData := match d with
  | .dict ps => if keyOk ps k = true then some ((dlook ps k).getD x) else none
  | _ => none
def dget1 (fo fk : M PyData) : M PyData := M.bind fo fun d => if isDict d = true then M.bind fk fun k => M.opt (gGet1 d k) else fun _ => .bad
def dget2 (fo fk fx : M PyData) : M PyData := M.bind fo fun d => if isDict d = true then M.bind fk fun k => M.bind fx fun x => M.opt (gGet2 d k x) else fun _ => .bad
def tDGX1 (w : World) (td ty : TE) : TE := fun σ H Q => td σ H fun x H1 => ∃ a, x = .ref a ∧ IsDX w H1 a ∧ ty σ H1 fun y H2 => ∃ o, DGX w H2 a y o ∧ Q (o.getD .non) H2
def tDGX2 (w : World) (td ty tx : TE) : TE := fun σ H Q => td σ H fun x H1 => ∃ a, x = .ref a ∧ IsDX w H1 a ∧ ty σ H1 fun y H2 => tx σ H2 fun z H3 => ∃ o, DGX w H3 a y o ∧ Q (o.getD z) H3
theorem pe_dgx1 {td ty : TE} {apos : Pos} (hu : X.A.units + 64 < cLine) (ho : PE X o td) (he : PE X k ty) (m : M1 X o "get" apos k pos) : PE X (.Call (.Attribute o "get" apos) [k] [] pos) (tDGX1 X.w td ty) := by
  refine ⟨fun pins s σ H Q I h => ?_⟩
  refine wpAny_Call_method m.base m.few m.line PySem.F.plainAttrs_dict PySem.F.slot_dict_get PySem.F.type_dict_get (thn (ho.run pins s σ H _ I h) fun u s1 ⟨x, H1, I1, rx, a, ex, d, q1⟩ => ?_)
  subst ex
  obtain rfl : u = Value.ref a := rx
  obtain ⟨t1, t2, _⟩ := isDX_at I1 d
  refine ⟨t1, t2, ?_⟩
  rw [m.trees]
  refine Calls.callWith_builtin rfl (Calls.evalArgs_plain (Calls.spliced_cons (thn (he.run pins s1 σ H1 _ I1 q1) fun iv s2 ⟨y, H2, I2, ry, ov, g, q2⟩ => Calls.spliced_nil ?_)))
  exact x_get1 (by omega) I2 g ry fun w' s3 I3 rw' => ⟨_, H2, I3, rw', q2⟩
theorem pe_dgx2 {td ty tx : TE} {apos : Pos} (hu : X.A.units + 64 < cLine) (ho : PE X o td) (he : PE X k ty) (hf : PE X x tx) (m : M2 X o "get" apos k x pos) : PE X (.Call (.Attribute o "get" apos) [k, x] [] pos) (tDGX2 X.w td ty tx) := by
  refine ⟨fun pins s σ H Q I h => ?_⟩
  refine wpAny_Call_method m.base m.few m.line PySem.F.plainAttrs_dict PySem.F.slot_dict_get PySem.F.type_dict_get (thn (ho.run pins s σ H _ I h) fun u s1 ⟨x, H1, I1, rx, a, ex, d, q1⟩ => ?_)
  subst ex
  obtain rfl : u = Value.ref a := rx
  obtain ⟨t1, t2, _⟩ := isDX_at I1 d
  refine ⟨t1, t2, ?_⟩
  rw [m.trees]
  refine Calls.callWith_builtin rfl (Calls.evalArgs_plain (Calls.spliced_cons (thn (he.run pins s1 σ H1 _ I1 q1) fun iv s2 ⟨y, H2, I2, ry, q2⟩ =>
    Calls.spliced_cons (thn (hf.run pins s2 σ H2 _ I2 q2) fun fv s3 ⟨z, H3, I3, rz, ov, g, q3⟩ => Calls.spliced_nil ?_))))
  exact x_get2 (by omega) I3 g ry rz fun w' s4 I4 rw' => ⟨_, H3, I4, rw', q3⟩
theorem pm_dget1 {apos : Pos} (hu : X.A.units + 64 < cLine) (ho : PM X F o fo) (hk : PM X F k fk) (m : M1 X o "get" apos k pos := by exact ⟨rfl, rfl, rfl, rfl⟩) : PM X F (.Call (.Attribute o "get" apos) [k] [] pos) (dget1 fo fk) := by
  refine PE.imp (pe_dgx1 hu ho hk m) fun σ H Q ⟨V, ρ, E, g0⟩ => ⟨V, ρ, E, Goal.bind g0 fun x dx H1 V1 ρ1 st1 r1 g1 => ?_⟩
  cases dx with
  | dict ps =>
    obtain ⟨a, rfl, ra⟩ := rep_ref r1
    refine ⟨a, rfl, isDX_rep st1.env.sub ra, V1, ρ1, st1.env, Goal.bind g1 fun y dy H2 V2 ρ2 st2 r2 g2 => ?_⟩
    obtain ⟨z, ez, q⟩ := Goal.opt st2.env g2
    have s := st2.env.sub
    obtain ⟨ok, rfl⟩ := ite_some (show (if keyOk ps dy = true then some ((dlook ps dy).getD .none) else none) = some z from ez)
    obtain ⟨ov, g, l⟩ := Rep.look s (ra.mono st2.v) r2 ok
    refine ⟨ov, g, q _ _ _ (Ext.refl s) ?_⟩
    cases el : dlook ps dy with
    | none => rw [el] at l; have l : ov = none := l; rw [l]; exact .non
    | some d => rw [el] at l; obtain ⟨v, rfl, rv⟩ := l; exact rv
  | _ => exact False.elim g1
theorem pm_dget2 {apos : Pos} (hu : X.A.units + 64 < cLine) (ho : PM X F o fo) (hk : PM X F k fk) (hx : PM X F x fx) (m : M2 X o "get" apos k x pos := by exact ⟨rfl, rfl, rfl, rfl⟩) : PM X F (.Call (.Attribute o "get" apos) [k, x] [] pos) (dget2 fo fk fx) := by
  refine PE.imp (pe_dgx2 hu ho hk hx m) fun σ H Q ⟨V, ρ, E, g0⟩ => ⟨V, ρ, E, Goal.bind g0 fun x dx H1 V1 ρ1 st1 r1 g1 => ?_⟩
  cases dx with
  | dict ps =>
    obtain ⟨a, rfl, ra⟩ := rep_ref r1
    refine ⟨a, rfl, isDX_rep st1.env.sub ra, V1, ρ1, st1.env, Goal.bind g1 fun y dy H2 V2 ρ2 st2 r2 g2 => ⟨V2, ρ2, st2.env, Goal.bind g2 fun z dz H3 V3 ρ3 st3 r3 g3 => ?_⟩⟩
    obtain ⟨zz, ez, q⟩ := Goal.opt st3.env g3
    have s := st3.env.sub
    obtain ⟨ok, rfl⟩ := ite_some (show (if keyOk ps dy = true then some ((dlook ps dy).getD dz) else none) = some zz from ez)
    obtain ⟨ov, g, l⟩ := Rep.look s ((ra.mono st2.v).mono st3.v) (r2.mono st3.v) ok
    refine ⟨ov, g, q _ _ _ (Ext.refl s) ?_⟩
    cases el : dlook ps dy with
    | none => rw [el] at l; have l : ov = none := l; rw [l]; exact r3
    | some d => rw [el] at l; obtain ⟨v, rfl, rv⟩ := l; exact rv
  | _ => exact False.elim g1
end
theorem RepK.putK {K : KW} {V : Hp} {kvs : List (Key × L2.V)} {ps : List (PyData × PyData)} {q : Key} {v : L2.V} {d : PyData} (r : RepK K V kvs ps) (rv : Rep K V v d) : RepK K V (putK kvs q v) (dput ps (keyD q) d) := by
  have ha : ∀ {kvs : List (Key × L2.V)} {ps : List (PyData × PyData)}, RepK K V kvs ps → (kvs.any fun kv => decide (kv.1 = q)) = ps.any fun p => keyEqD p.1 (keyD q) := by
    intro kvs ps r
    induction ps generalizing kvs with
    | nil => cases r; rfl
    | cons p ps ih =>
      cases r with
      | cons r1 t => rw [List.any_cons, List.any_cons, ih t, keyEq_keyD]
  have hm : ∀ {kvs : List (Key × L2.V)} {ps : List (PyData × PyData)}, RepK K V kvs ps → RepK K V (kvs.map fun kv => if kv.1 = q then (kv.1, v) else kv) (ps.map fun p => if keyEqD p.1 (keyD q) = true then (p.1, d) else p) := by
    intro kvs ps r
    induction ps generalizing kvs with
    | nil => cases r; exact .nil
    | cons p ps ih =>
      cases r with
      | @cons k x kvs dx _ r1 t =>
        rw [List.map_cons, List.map_cons]
        by_cases e : k = q
        · rw [if_pos e, if_pos (by show keyEqD (keyD k) (keyD q) = true; rw [keyEq_keyD, decide_eq_true e])]
          exact .cons rv (ih t)
        · rw [if_neg e, if_neg (by show ¬ keyEqD (keyD k) (keyD q) = true; rw [keyEq_keyD, decide_eq_false e]; exact Bool.false_ne_true)]
          exact .cons r1 (ih t)
  have hs : ∀ {kvs : List (Key × L2.V)} {ps : List (PyData × PyData)}, RepK K V kvs ps → RepK K V (kvs ++ [(q, v)]) (ps ++ [(keyD q, d)]) := by
    intro kvs ps r
    induction ps generalizing kvs with
    | nil => cases r; exact .cons rv .nil
    | cons p ps ih =>
      cases r with
      | cons r1 t => exact .cons r1 (ih t)
  unfold L2.putK dput
  rw [ha r]
  by_cases e : (ps.any fun p => keyEqD p.1 (keyD q)) = true
  · rw [if_pos e, if_pos e]; exact hm r
  · rw [if_neg e, if_neg e]; exact hs r
theorem RepT.putX {K : KW} {V : Hp} {xs : List (NestedKey × Addr × L2.V)} {ps : List (PyData × PyData)} {q : NestedKey} {b : Addr} {kd : PyData} {v : L2.V} {d : PyData} (r : RepT K V xs ps) (rk : Rep K V (.ref b) kd) (hq : nkey kd = some q) (dq : q.depth ≤ 8) (rv : Rep K V v d) : RepT K V (putX xs q b v) (dput ps kd d) := by
  have ek : ∀ {dk : PyData} {k : NestedKey}, nkey dk = some k → keyEqD dk kd = decide (k = q) := by
    intro dk k n
    unfold keyEqD
    rw [n, hq]
    by_cases e : k = q
    · subst e; simp
    · rw [decide_eq_false e, decide_eq_false (fun z => e (Option.some.inj z))]
  have ha : ∀ {xs : List (NestedKey × Addr × L2.V)} {ps : List (PyData × PyData)}, RepT K V xs ps → (xs.any fun x => decide (x.1 = q)) = ps.any fun p => keyEqD p.1 kd := by
    intro xs ps r
    induction ps generalizing xs with
    | nil => cases r; rfl
    | cons p ps ih =>
      cases r with
      | cons r1 n z r2 t => rw [List.any_cons, List.any_cons, ih t, ek n]
  have hm : ∀ {xs : List (NestedKey × Addr × L2.V)} {ps : List (PyData × PyData)}, RepT K V xs ps → RepT K V (xs.map fun x => if x.1 = q then (x.1, x.2.1, v) else x) (ps.map fun p => if keyEqD p.1 kd = true then (p.1, d) else p) := by
    intro xs ps r
    induction ps generalizing xs with
    | nil => cases r; exact .nil
    | cons p ps ih =>
      cases r with
      | @cons k b x xs dk dx _ r1 n z r2 t =>
        rw [List.map_cons, List.map_cons]
        by_cases e : k = q
        · rw [if_pos e, if_pos (by show keyEqD dk kd = true; rw [ek n, decide_eq_true e])]
          exact .cons r1 n z rv (ih t)
        · rw [if_neg e, if_neg (by show ¬ keyEqD dk kd = true; rw [ek n, decide_eq_false e]; exact Bool.false_ne_true)]
          exact .cons r1 n z r2 (ih t)
  have hs : ∀ {xs : List (NestedKey × Addr × L2.V)} {ps : List (PyData × PyData)}, RepT K V xs ps → RepT K V (xs ++ [(q, b, v)]) (ps ++ [(kd, d)]) := by
    intro xs ps r
    induction ps generalizing xs with
    | nil => cases r; exact .cons rk hq dq rv .nil
    | cons p ps ih =>
      cases r with
      | cons r1 n z r2 t => exact .cons r1 n z r2 (ih t)
  unfold DL.putX dput
  rw [ha r]
  by_cases e : (ps.any fun p => keyEqD p.1 kd) = true
  · rw [if_pos e, if_pos e]; exact hm r
  · rw [if_neg e, if_neg e]; exact hs r
theorem RepK.length {K : KW} {V : Hp} : ∀ {kvs : List (Key × L2.V)} {ps : List (PyData × PyData)}, RepK K V kvs ps → kvs.length = ps.length
  | _, _, .nil => rfl
  | _, _, .cons _ t => by simp [RepK.length t]
theorem RepT.length {K : KW} {V : Hp} : ∀ {kvs : List (NestedKey × Addr × L2.V)} {ps : List (PyData × PyData)}, RepT K V kvs ps → kvs.length = ps.length
  | _, _, .nil => rfl
  | _, _, .cons _ _ _ _ t => by simp [RepT.length t]
theorem dput_ne (ps : List (PyData × PyData)) (k v : PyData) : dput ps k v ≠ [] := by
  unfold dput
  by_cases e : (ps.any fun p => keyEqD p.1 k) = true
  · rw [if_pos e]
    intro z
    have : ps = [] := by simpa using z
    subst this
    cases e
  · rw [if_neg e]; simp
/-- a[k] = d of an own dict -/
theorem OwnAt.dput {K : KW} {V H : Hp} (s : Same V H) {a : Addr} {ps : List (PyData × PyData)} {y v : L2.V} {k d : PyData} (o : OwnAt K V H a (.dict ps)) (ry : Rep K V y k) (rv : Rep K V v d) (ok : keyOk ps k = true) (hl : ps.length < LIM) :
    ∃ u : Nat → HO, DPX K.w H a y v (fun ep => upd H a (u ep)) ∧ ∀ ep, OwnAt K V (upd H a (u ep)) a (.dict (dput ps k d)) := by
  rcases Bool.or_eq_true_iff.mp ok with ok | ok
  · obtain ⟨o1, o2⟩ := Bool.and_eq_true_iff.mp ok
    obtain ⟨q, rfl, rfl⟩ := plain_key ry o1
    rcases o with ⟨kvs, e, r, n⟩ | ⟨xs, ep, e, r⟩
    · exact ⟨fun _ => .dK (putK kvs q v), .inl ⟨kvs, q, e, rfl, by rw [r.length]; exact Nat.lt_trans hl lim_lt, rfl⟩, fun _ => .inl ⟨_, upd_same, r.putK rv, dput_ne _ _ _⟩⟩
    · have e0 := r.tups o2
      subst e0
      cases r
      exact ⟨fun _ => .dK [(q, v)], .inr (.inr ⟨ep, q, e, rfl, rfl⟩), fun _ => .inl ⟨_, upd_same, (RepK.nil).putK rv, dput_ne _ _ _⟩⟩
  · obtain ⟨o12, o3⟩ := Bool.and_eq_true_iff.mp ok
    obtain ⟨o1, o2⟩ := Bool.and_eq_true_iff.mp o12
    obtain ⟨q, b, e1, rfl, nq, dq⟩ := tup_key s ry o1 o2
    rcases o with ⟨kvs, e, r, n⟩ | ⟨xs, ep, e, r⟩
    · exact absurd (r.plains o3) n
    · exact ⟨fun ep => dX K.w a (putX xs q b v) ep, .inr (.inl ⟨xs, ep, q, b, e, r.keysAt s, rfl, nq, dq, by rw [r.length]; exact Nat.lt_trans hl lim_lt, rfl⟩), fun ep => .inr ⟨_, ep, upd_same, r.putX ry e1 dq rv⟩⟩
def sDPX (w : World) (td ty tv : TE) : TS := fun D σ H => tv σ H fun v H1 => td σ H1 fun x H2 => ty σ H2 fun y H3 => ∃ a H4, x = .ref a ∧ DPX w H3 a y v H4 ∧ ∀ ep, D.nx σ (H4 ep)
/-- d[k] = e, d an own dict in slot i -/
def dsetO (i : Nat) (fk fv : M PyData) : SM := exO fv fun dv ρ => if isOw ρ[i]? = true then exO fk (fun dk ρ => match ρ[i]? with
  | some (.ow (.dict ps)) => if keyOk ps dk = true ∧ ps.length < LIM then .nx (ρ.set i (.ow (.dict (dput ps dk dv)))) else .bad
  | _ => .bad) ρ else .bad
section
variable {X : Cx} {F : Fr} {k value : Expr} {pos pos' : Pos} {fk fv : M PyData}
theorem ps_dputX {o : Expr} {td ty tv : TE} (hu : X.A.units + 64 < cLine) (ho : PE X o td) (hi : PE X k ty) (hv : PE X value tv) (hs : swapsWith value (some (.Subscript o k pos')) pos.line X.env = pure false) :
    PS X (.Assign [.Subscript o k pos'] value pos) (sDPX X.w td ty tv) := by
  refine ⟨fun pins s σ H D I h => ?_⟩
  refine wpAny_Assign_Subscript (thn (hv.run pins s σ H _ I h) fun r s1 ⟨v, H1, I1, rv, q1⟩ => thn (ho.run pins s1 σ H1 _ I1 q1) fun u s2 ⟨x, H2, I2, rx, q2⟩ => thn (hi.run pins s2 σ H2 _ I2 q2) fun iv s3 ⟨y, H3, I3, ry, a, H4, ex, g, q3⟩ => ?_) hs
  subst ex
  obtain rfl : u = Value.ref a := rx
  exact x_setItem (by omega) I3 g ry rv fun ep s4 I4 => ⟨σ, H4 ep, I4, q3 ep⟩
theorem pms_dset (i : Nat) {x : Str} {px : Pos} (hu : X.A.units + 64 < cLine) (hv : PM X F value fv) (hk : PM X F k fk) (hN : X.N[i]? = some x := by rfl) (hvs : Vis X.env.scope x := by first | exact Or.inl rfl | exact Or.inr (Or.inl rfl) | exact Or.inr (Or.inr rfl)) (hd : (x == ("__debug__" : Str)) = false := by decide) (hcd : (x == ("__classdict__" : Str)) = false := by decide)
    (hs : swapsWith value (some (.Subscript (.Name x px) k pos')) pos.line X.env = pure false := by rfl) : PMS X F (.Assign [.Subscript (.Name x px) k pos'] value pos) (dsetO i fk fv) := by
  refine PS.imp (ps_dputX hu (pe_var hN hvs hd hcd) hk hv hs) fun D σ H ⟨V, ρ, E, g⟩ => ⟨V, ρ, E, Goal.ex g fun v d H1 V1 ρ1 st1 r1 g1 => ?_⟩
  have g1 : GoalS X.kw F V1 (if isOw ρ1[i]? = true then exO fk (fun dk ρ => match ρ[i]? with
    | some (.ow (.dict ps)) => if keyOk ps dk = true ∧ ps.length < LIM then .nx (ρ.set i (.ow (.dict (dput ps dk d)))) else .bad
    | _ => .bad) ρ1 else .bad) D := g1
  by_cases hio : isOw ρ1[i]? = true
  · rw [if_pos hio] at g1
    cases eo : ρ1[i]? with
    | none => rw [eo] at hio; cases hio
    | some s =>
      cases s with
      | no => rw [eo] at hio; cases hio
      | sh d => rw [eo] at hio; cases hio
      | ow d0 =>
        obtain ⟨a, h1, h2, h3, h4⟩ := st1.env.ow i _ eo
        refine ⟨.ref a, h1, V1, ρ1, st1.env, Goal.ex g1 fun y dk H2 V2 ρ2 st2 r2 g2 => ?_⟩
        cases eo1 : ρ2[i]? with
        | none => rw [eo1] at g2; exact False.elim g2
        | some s1 =>
          rw [eo1] at g2
          cases s1 with
          | no => exact False.elim g2
          | sh d => exact False.elim g2
          | ow d1 =>
            cases d1 with
            | dict ps =>
              have g2 : GoalS X.kw F V2 (if keyOk ps dk = true ∧ ps.length < LIM then .nx (ρ2.set i (.ow (.dict (dput ps dk d)))) else .bad) D := g2
              obtain ⟨a', q1, q2, q3, q4⟩ := st2.env.ow i _ eo1
              have ea : a' = a := by rw [h1] at q1; exact (L2.V.ref.inj (Option.some.inj (Option.some.inj q1))).symm
              subst ea
              by_cases hc : keyOk ps dk = true ∧ ps.length < LIM
              · rw [if_pos hc] at g2
                obtain ⟨u, w1, w2⟩ := OwnAt.dput st2.env.sub q4 r2 (r1.mono st2.v) hc.1 hc.2
                exact ⟨a', _, rfl, w1, fun ep => g2 _ _ _ (st2.env.updOw eo1 q1 (w2 ep)) (Same.refl _)⟩
              · rw [if_neg hc] at g2
                exact False.elim g2
            | _ => exact False.elim g2
  · rw [if_neg hio] at g1
    exact False.elim g1
end
end DL
set_option Elab.async false
set_option linter.all false
set_option maxRecDepth 100000
set_option maxHeartbeats 1000000
namespace DL
open PySem PySem.Spec PyProof.Rows L2
variable [TabCtx]
inductive RepS (K : KW) (H0 V' H' : Hp) : List L2.V → List Sl → List Addr → Prop
  | nil : RepS K H0 V' H' [] [] []
  | sh {v : L2.V} {d : PyData} {vs : List L2.V} {ss : List Sl} {as : List Addr} : Rep K V' v d → RepS K H0 V' H' vs ss as → RepS K H0 V' H' (v :: vs) (.sh d :: ss) as
  | ow {a : Addr} {d : PyData} {vs : List L2.V} {ss : List Sl} {as : List Addr} : V' a = none → H0 a = none → OwnAt K V' H' a d → a ∉ as → RepS K H0 V' H' vs ss as → RepS K H0 V' H' (.ref a :: vs) (.ow d :: ss) (a :: as)
def GoalX (K : KW) (F : Fr) (σ : St) (ρ : Rho) (H V : Hp) (r : R (List Sl × Rho)) (Q : List L2.V → Hp → Prop) : Prop := match r with
  | .ok (ss, ρ') => ∀ vs H' V' as, Stp K F σ ρ ρ' H V H' V' → RepS K H V' H' vs ss as → Q vs H'
  | .exc c => ∀ H' V', Ext F.H0 F.V0 H' V' → F.W (.ref (He.ga K c)) σ H'
  | .bad => False
def tMX (K : KW) (F : Fr) (f : M (List Sl)) : TA := fun σ H Q => ∃ V ρ, EnvR K F H V σ ρ ∧ GoalX K F σ ρ H V (f ρ) Q
def PMX (X : Cx) (F : Fr) (es : List Expr) (f : M (List Sl)) : Prop := PA X es (tMX X.kw F f)
def xN : M (List Sl) := M.pure []
def xSh (a : M PyData) (r : M (List Sl)) : M (List Sl) := M.bind a fun x => M.bind r fun xs => M.pure (.sh x :: xs)
def xOw (a : M PyData) (r : M (List Sl)) : M (List Sl) := M.bind a fun x => M.bind r fun xs => M.pure (.ow x :: xs)
section
variable {K : KW} {F : Fr} {σ : St} {ρ ρ1 ρ2 : Rho} {H V H1 V1 H2 V2 : Hp}
theorem RepS.news {H0 V' H' : Hp} : ∀ {vs : List L2.V} {ss : List Sl} {as : List Addr}, RepS K H0 V' H' vs ss as → ∀ a ∈ as, H0 a = none
  | _, _, _, .nil => fun a h => nomatch h
  | _, _, _, .sh _ t => t.news
  | _, _, _, .ow _ h0 _ _ t => fun a h => by
    rcases List.mem_cons.mp h with e | e
    · rw [e]; exact h0
    · exact t.news a e
theorem RepS.old {V' H' : Hp} (k : ∀ b, H b ≠ none → H1 b ≠ none) : ∀ {vs : List L2.V} {ss : List Sl} {as : List Addr}, RepS K H1 V' H' vs ss as → RepS K H V' H' vs ss as
  | _, _, _, .nil => .nil
  | _, _, _, .sh r t => .sh r (t.old k)
  | _, _, _, .ow (a := a) h1 h0 o n t => .ow h1 (by
    cases q : H a with
    | none => rfl
    | some u => exact absurd h0 (k a (by rw [q]; exact fun z => nomatch z))) o n (t.old k)
end
section
variable {X : Cx} {F : Fr} {e : Expr} {es : List Expr} {fa : M PyData} {fs : M (List Sl)} {pos : Pos}
theorem pmx_nil : PMX X F [] xN := PA.imp pa_nil fun σ H Q ⟨V, ρ, E, g⟩ => g [] H V [] E.refl .nil
theorem goalX_bind {α β : Type} {K : KW} {σ : St} {ρ : Rho} {H V : Hp} {rep1 : Hp → β → α → Prop} {f : M α} {k : α → M (List Sl)} {Q : List L2.V → Hp → Prop} {Q1 : β → Hp → Prop} (g : GoalX K F σ ρ H V (M.bind f k ρ) Q)
    (h : ∀ b a H' V' ρ', Stp K F σ ρ ρ' H V H' V' → rep1 V' b a → (match k a ρ' with
      | .ok (ss, ρ'') => ∀ vs H'' V'' as, Stp K F σ ρ ρ'' H V H'' V'' → RepS K H V'' H'' vs ss as → Q vs H''
      | .exc c => ∀ H' V', Ext F.H0 F.V0 H' V' → F.W (.ref (He.ga K c)) σ H'
      | .bad => False) → Q1 b H') : Goal K F σ ρ H V rep1 (f ρ) Q1 := by
  unfold M.bind at g
  cases e : f ρ with
  | ok p =>
    obtain ⟨a, ρ'⟩ := p
    rw [e] at g
    exact fun b H' V' st r => h b a H' V' ρ' st r g
  | exc c => rw [e] at g; exact g
  | bad => rw [e] at g; exact g
theorem pmx_sh (ha : PM X F e fa) (hr : PMX X F es fs) (hs : starEach (e :: es) X.env = (false, eval e X.env) :: starEach es X.env := by rfl) : PMX X F (e :: es) (xSh fa fs) := by
  refine PA.imp (pa_cons ha hr hs) fun σ H Q ⟨V, ρ, E, g0⟩ => ⟨V, ρ, E, goalX_bind g0 fun v d H1 V1 ρ1 st1 r1 g1 => ⟨V1, ρ1, st1.env, ?_⟩⟩
  unfold M.bind at g1
  cases ef : fs ρ1 with
  | exc c => rw [ef] at g1; exact g1
  | bad => rw [ef] at g1; exact g1
  | ok pr =>
    obtain ⟨ss, ρ2⟩ := pr
    rw [ef] at g1
    intro vs H2 V2 as st2 r2
    exact g1 (v :: vs) H2 V2 as (st1.trans st2) (.sh (r1.mono st2.v) (r2.old st1.th))
theorem pmx_ow (ha : PMF X F e fa) (hr : PMX X F es fs) (hs : starEach (e :: es) X.env = (false, eval e X.env) :: starEach es X.env := by rfl) : PMX X F (e :: es) (xOw fa fs) := by
  refine PA.imp (pa_cons ha hr hs) fun σ H Q ⟨V, ρ, E, g0⟩ => ⟨V, ρ, E, ?_⟩
  have g0 : GoalX X.kw F σ ρ H V (M.bind fa (fun x => M.bind fs fun xs => M.pure (.ow x :: xs)) ρ) Q := g0
  unfold M.bind at g0
  cases ea : fa ρ with
  | exc c => rw [ea] at g0; exact g0
  | bad => rw [ea] at g0; exact g0
  | ok pr =>
    obtain ⟨d, ρ1⟩ := pr
    rw [ea] at g0
    intro v H1 V1 st1 hv
    obtain ⟨a, rfl, h1, h2, h3⟩ := hv
    refine ⟨V1, ρ1, st1.env, ?_⟩
    have g1 := g0
    dsimp only at g1
    cases ef : fs ρ1 with
    | exc c => rw [ef] at g1; exact g1
    | bad => rw [ef] at g1; exact g1
    | ok pr =>
      obtain ⟨ss, ρ2⟩ := pr
      rw [ef] at g1
      intro vs H2 V2 as st2 r2
      obtain ⟨o, ho, _⟩ := h3.there
      have hn : H1 a ≠ none := by rw [ho]; exact fun z => nomatch z
      exact g1 (.ref a :: vs) H2 V2 (a :: as) (st1.trans st2) (.ow (st2.f a h1 hn) h2 (h3.mono st2.v fun o q nt => st2.keep a o q nt (st1.notOwn E h2)) (fun z => hn (r2.news a z)) (r2.old st1.th))
def setL : List Nat → List Sl → Rho → Rho
  | i :: is, s :: ss, ρ => setL is ss (ρ.set i s)
  | _, _, ρ => ρ
def setV : List Nat → List L2.V → St → St
  | i :: is, v :: vs, σ => setV is vs (σ.set i (some v))
  | _, _, σ => σ
theorem EnvR.setS {K : KW} {F : Fr} {H V H0 : Hp} : ∀ {is : List Nat} {vs : List L2.V} {ss : List Sl} {as : List Addr} {σ : St} {ρ : Rho}, (∀ i ∈ is, i ≠ F.ls ∨ F.lent = none) → EnvR K F H V σ ρ → RepS K H0 V H vs ss as → (∀ a ∈ as, F.H0 a = none ∧ ¬ IsOwn σ ρ a) → EnvR K F H V (setV is vs σ) (setL is ss ρ)
  | [], _, _, _, _, _, _, E, r, _ => by cases r <;> exact E
  | i :: is, _, _, _, _, _, _, E, .nil, _ => E
  | i :: is, _, _, _, _, _, hl, E, .sh r t, ha => by
    refine EnvR.setS (is := is) (fun j hj => hl j (List.mem_cons_of_mem _ hj)) (E.setSh r (hl i List.mem_cons_self)) t (fun a h => ⟨(ha a h).1, fun z => (ha a h).2 (isOwn_set z)⟩)
  | i :: is, _, _, _, σ, ρ, hl, E, .ow (a := a) (d := d) h1 h0 o n t, ha => by
    refine EnvR.setS (is := is) (fun j hj => hl j (List.mem_cons_of_mem _ hj)) (E.setHid h1 (ha a List.mem_cons_self).1 (ha a List.mem_cons_self).2 o (hl i List.mem_cons_self)) t fun b h => ⟨(ha b (List.mem_cons_of_mem _ h)).1, fun z => ?_⟩
    obtain ⟨j, e, q1, q2⟩ := z
    rcases getElem_set_some q1 with ⟨rfl, _, _⟩ | ⟨ne, w1⟩
    · rcases getElem_set_some q2 with ⟨_, w2, _⟩ | ⟨ne, _⟩
      · have : a = b := L2.V.ref.inj (Option.some.inj w2)
        exact n (this ▸ h)
      · exact ne rfl
    · rw [List.getElem?_set_ne ne] at q2
      exact (ha b (List.mem_cons_of_mem _ h)).2 ⟨j, e, w1, q2⟩
/-- a, b, .. = e1, e2, .. -/
def parO (is : List Nat) (f : M (List Sl)) : SM := exO f fun ss ρ => if ss.length = is.length then .nx (setL is ss ρ) else .bad
theorem RepS.length {K : KW} {H0 V' H' : Hp} : ∀ {vs : List L2.V} {ss : List Sl} {as : List Addr}, RepS K H0 V' H' vs ss as → vs.length = ss.length
  | _, _, _, .nil => rfl
  | _, _, _, .sh _ t => by simp [t.length]
  | _, _, _, .ow _ _ _ _ t => by simp [t.length]
theorem par_of {K : KW} {is : List Nat} {f : M (List Sl)} {D : Ends} {σ : St} {H : Hp} (hl : ∀ i ∈ is, i ≠ F.ls ∨ F.lent = none) (h : tS K F (parO is f) D σ H) : tMX K F f σ H fun vs H1 => vs.length = is.length ∧ ∃ V1 ρ1, EnvR K F H1 V1 (setV is vs σ) ρ1 ∧ GoalS K F V1 (.nx ρ1) D := by
  obtain ⟨V, ρ, E, g⟩ := h
  refine ⟨V, ρ, E, ?_⟩
  unfold parO exO at g
  cases ef : f ρ with
  | exc c => rw [ef] at g; exact fun H' V' x => g σ H' V' x
  | bad => rw [ef] at g; exact g
  | ok pr =>
    obtain ⟨ss, ρ1⟩ := pr
    rw [ef] at g
    intro vs H1 V1 as st1 r1
    have g : GoalS K F V (if ss.length = is.length then .nx (setL is ss ρ1) else .bad) D := g
    by_cases he : ss.length = is.length
    · rw [if_pos he] at g
      exact ⟨by rw [r1.length]; exact he, V1, _, EnvR.setS (is := is) hl st1.env r1 (fun a ha => ⟨E.ext.free (r1.news a ha), st1.notOwn E (r1.news a ha)⟩), GoalS.mono st1.v g⟩
    · rw [if_neg he] at g
      exact False.elim g
theorem par_imp {K : KW} {f : M (List Sl)} {σ : St} {H : Hp} {Q Q' : List L2.V → Hp → Prop} (h : tMX K F f σ H Q) (i : ∀ vs H, Q vs H → Q' vs H) : tMX K F f σ H Q' := by
  obtain ⟨V, ρ, E, g⟩ := h
  refine ⟨V, ρ, E, ?_⟩
  cases ef : f ρ with
  | exc c => rw [ef] at g; exact g
  | bad => rw [ef] at g; exact g
  | ok pr => rw [ef] at g; exact fun vs H' V' as st r => i _ _ (g vs H' V' as st r)
theorem pms_par2 (i j : Nat) {x y : Str} {a b : Expr} {f : M (List Sl)} {px py pt pos : Pos} {kt k2 pt2} (ha : PMX X F [a, b] f) (hN : X.N.Nodup) (hi : X.N[i]? = some x := by rfl) (hj : X.N[j]? = some y := by rfl) (hij : i ≠ j := by decide)
    (hx : X.env.scope.names.lookup x = some .local := by rfl) (hy : X.env.scope.names.lookup y = some .local := by rfl) (hl : ∀ n ∈ [i, j], n ≠ F.ls ∨ F.lent = none := by first | exact fun _ _ => Or.inr rfl | (intro n hn; exact Or.inl (fun z => absurd (z ▸ hn) (nm_ls rfl))))
    (hw : swappedStores [.Tuple [.Name x px, .Name y py] kt pt] (.Tuple [a, b] k2 pt2) X.env = pure (some [x, y]) := by rfl)
    (hs : swapsWithSole [.Tuple [.Name x px, .Name y py] kt pt] (.Tuple [a, b] k2 pt2) pos.line X.env = pure false := by rfl) (hc : X.calm = true := by rfl) :
    PMS X F (.Assign [.Tuple [.Name x px, .Name y py] kt pt] (.Tuple [a, b] k2 pt2) pos) (parO [i, j] f) := by
  refine PS.imp (ps_par hc hN hi hj hij hx hy ha hw hs) fun D σ H h => par_imp (par_of hl h) fun vs H1 ⟨e, V1, ρ1, E1, g1⟩ => ?_
  match vs, e with
  | [v, w], _ => exact ⟨v, w, rfl, g1 _ _ _ E1 (Same.refl _)⟩
end
end DL
set_option Elab.async false
set_option linter.all false
set_option maxRecDepth 100000
set_option maxHeartbeats 1000000
namespace DL
open PySem PySem.Spec PyProof.Rows L2
end DL
set_option Elab.async false
set_option linter.all false
set_option maxRecDepth 100000
set_option maxHeartbeats 1000000
namespace DL
open PySem PySem.Spec PyProof.Rows L2
variable [TabCtx]
def brwF (b : Bool) (a : M PyData) : M PyData := fun ρ => match a (demR b ρ) with
  | .ok (d, ρ') => if immC d = true then (match backR b ρ ρ' with
    | some ρ'' => .ok (d, ρ'')
    | none => .bad) else .bad
  | .exc c => .exc c
  | .bad => .bad
end DL
set_option Elab.async false
set_option linter.all false
set_option maxRecDepth 100000
set_option maxHeartbeats 1000000
namespace DL
open PySem PySem.Spec PyProof.Rows L2
variable [TabCtx]
/-- the keys of the dict at d -/
def Itx (w : World) (d : Addr) (xs : List (NestedKey × Addr × L2.V)) (ep : Nat) : It :=
  ⟨fun i H => H d = some (dX w d xs ep) ∧ i < xs.length, fun i H x H' => H' = H ∧ ∃ k b v, xs[i]? = some (k, b, v) ∧ x = .ref b, fun i H => H d = some (dX w d xs ep) ∧ xs.length ≤ i⟩
theorem xok_at {P : Program} {w : World} {H : Hp} {h : Heap} {d : Addr} {xs : List (NestedKey × Addr × L2.V)} {ep : Nat} (ok : HOk P w H h) (e : H d = some (dX w d xs ep)) : (d == sysModules) = false ∧ ∃ o es, h.get? d = some o ∧ o.ExactDict ∧ o.data = .dict es ep ∧ es.size = xs.length ∧
    ∀ (i : Nat) k b v, xs[i]? = some (k, b, v) → ∃ en : DictEntry, es[i]? = some en ∧ en.key = .ref b := by
  obtain ⟨⟨z, y, nd, us, o, es, r, h1, h2, h3, h4⟩, _, _⟩ := (show ObjOk P w H h d (dX w d xs ep) from ok d _ e)
  have hl : xs.length = us.length := Paired.length r
  refine ⟨y, o, es, h1, h2, h3, by rw [← Array.length_toList, h4, List.length_map, hl], fun i k b v hi => ?_⟩
  obtain ⟨u, hu, g1, g2, _⟩ := L2.paired_get r hi
  refine ⟨⟨u.1.hash w, .ref u.2.1, u.2.2⟩, ?_, ?_⟩
  · rw [← Array.getElem?_toList, h4, List.getElem?_map, hu]; rfl
  · show Value.ref u.2.1 = .ref b
    rw [← g2]
theorem turn_x {P : Program} {w : World} {K : PySem.W.Frag} {tg : Expr} {d : Addr} {xs : List (NestedKey × Addr × L2.V)} {ep : Nat} (it : Addr) : Turn P w K tg (Itx w d xs ep) [it] it (fun i h => h.IsKeyIter it d i xs.length ep) where
  mem := List.mem_singleton.mpr rfl
  obj := fun i h ⟨oi, e, c, dd⟩ b hb => by
    rw [List.mem_singleton.mp hb]
    exact ⟨oi, e, fun v z => by rw [dd] at z; cases z⟩
  keep := fun i h h' st k => st.at fun oi e => k it (List.mem_singleton.mpr rfl) oi e
  item := by
    intro X hP hw hK hc i pins s σ H E I hf st ⟨hd, hi⟩
    subst hP hw hK
    obtain ⟨f0, f1, f2, f3, f4, f5⟩ := hf it (List.mem_singleton.mpr rfl)
    obtain ⟨hs, o, es, g1, g2, g3, g4, g5⟩ := xok_at I.hok hd
    obtain ⟨⟨k, b, v⟩, hx⟩ : ∃ p, xs[i]? = some p := ⟨xs[i], List.getElem?_eq_getElem hi⟩
    obtain ⟨en, he, hk⟩ := g5 i k b v hx
    refine L2.next_key_item st g1 g3 g4 he fun h' st' sb => ?_
    have I1 : L2.Inv X pins σ H { s with heap := h' } := I.turned (t' := s.toks) (fun b ob hb e => (sb.2 b hb).trans e) f0 f1 f3 f4 f5
    obtain ⟨oi, e, c, dd⟩ := id st'
    refine ⟨en.key, rfl, go_of (s := { s with heap := h' }) e c dd (by decide) ⟨.ref b, H, I1, by rw [hk]; rfl, ⟨rfl, k, b, v, hx, rfl⟩, st', fun b hb => (hf b hb).1⟩⟩
  done := by
    intro X hP hw hK hc i pins s σ H E I hf st ⟨hd, hi⟩
    subst hP hw hK
    obtain ⟨f0, f1, f2, f3, f4, f5⟩ := hf it (List.mem_singleton.mpr rfl)
    obtain ⟨hs, o, es, g1, g2, g3, g4, g5⟩ := xok_at I.hok hd
    exact L2.next_key_end (I.ok.hd hc) st g1 g3 g4 hi fun h' eb => ⟨rfl, I.turned (t' := s.toks) (fun b ob hb e => eb b ob hb e) f0 f1 f3 f4 f5⟩
  self := fun A i s Q E st h => wpAny_pyIter_keyiter st h
def keysOf : PyData → Option (List PyData)
  | .dict ps => if (ps.all fun p => isTupD p.1) = true then some (ps.map (·.1)) else none
  | _ => none
def dictI (a : M PyData) : M (List PyData) := M.bind a fun d => M.opt (keysOf d)
theorem RepT.key {K : KW} {V : Hp} : ∀ {xs : List (NestedKey × Addr × L2.V)} {ps : List (PyData × PyData)} (i : Nat) {d : PyData}, RepT K V xs ps → (ps.map (·.1))[i]? = some d → ∃ k b v, xs[i]? = some (k, b, v) ∧ Rep K V (.ref b) d
  | _, _, _, _, .nil, h => by simp at h
  | _, _, 0, _, .cons q n z r t, h => by
    have e := Option.some.inj h
    subst e
    exact ⟨_, _, _, rfl, q⟩
  | _, _, i + 1, _, .cons q n z r t, h => by
    obtain ⟨k, b, v, h1, h2⟩ := RepT.key i t (by simpa using h)
    exact ⟨k, b, v, by simpa using h1, h2⟩
theorem RepT.len {K : KW} {V : Hp} : ∀ {xs : List (NestedKey × Addr × L2.V)} {ps : List (PyData × PyData)}, RepT K V xs ps → xs.length = ps.length
  | _, _, .nil => rfl
  | _, _, .cons _ _ _ _ t => by simp [RepT.len t]
theorem itX {K : KW} {a : Addr} {xs : List (NestedKey × Addr × L2.V)} {ep : Nat} {V : Hp} {ps : List (PyData × PyData)} (h : V a = some (dX K.w a xs ep)) (r : RepT K V xs ps) : ItD K (Itx K.w a xs ep) V (ps.map (·.1)) := by
  intro i H' V' s1 s2
  have hq : H' a = some (dX K.w a xs ep) := s2 _ _ (s1 _ _ h)
  have hl := RepT.len r
  refine ⟨fun d hd => ?_, fun e => ⟨hq, by rw [hl, e, List.length_map]; exact Nat.le_refl _⟩⟩
  obtain ⟨k, b, v, h1, h2⟩ := RepT.key i r hd
  refine ⟨⟨hq, (List.getElem?_eq_some_iff.mp h1).1⟩, fun x H'' ⟨e, k', b', v', h3, ex⟩ => ?_⟩
  subst e ex
  rw [h1] at h3
  cases h3
  exact ⟨V', Ext.refl s2, h2.mono s1⟩
def iDict (w : World) (tl : TE) : TI := fun σ H R => tl σ H fun x H1 => ∃ a xs ep, x = .ref a ∧ H1 a = some (dX w a xs ep) ∧ R (Itx w a xs ep) H1
section
variable {X : Cx} {F : Fr} {tg l : Expr} {fa : M PyData}
theorem pi_dict {tl : TE} (hl : PE X l tl) : PI X tg l (iDict X.w tl) := by
  refine ⟨fun pins s σ H R I h => ?_⟩
  refine thn (hl.run pins s σ H _ I h) fun v s1 ⟨x, H1, I1, r1, a, xs, ep, ex, hx, q⟩ => ?_
  subst ex
  cases r1
  obtain ⟨hs, o, es, g1, g2, g3, g4, g5⟩ := xok_at I1.hok hx
  refine L2.iter_keys hs g1 g2 g3 (pi_one (tk := s1.toks) I1 _ (turn_x _) ⟨_, Heap.get?_push_size _ rfl, rfl, ?_⟩ q)
  rw [g4]; rfl
theorem pmi_dict (h : PM X F l fa) : PMI X F tg l (dictI fa) := by
  refine PI.imp (pi_dict h) fun σ H R ⟨V, ρ, E, g0⟩ => ⟨V, ρ, E, Goal.bind g0 fun x dx H1 V1 ρ1 st1 r1 g1 => ?_⟩
  obtain ⟨z, ez, q⟩ := Goal.opt st1.env g1
  have s := st1.env.sub
  cases r1 with
  | @dk a kvs ps ha ra n =>
    have ez : (if (ps.all fun p => isTupD p.1) = true then some (ps.map (·.1)) else none) = some z := ez
    have hc : (ps.all fun p => isTupD p.1) = true := by
      by_cases hc : (ps.all fun p => isTupD p.1) = true
      · exact hc
      · rw [if_neg hc] at ez; cases ez
    exact absurd (ra.plains hc) n
  | @dt a xs ep ps ha ra =>
    have ez : (if (ps.all fun p => isTupD p.1) = true then some (ps.map (·.1)) else none) = some z := ez
    have hc : (ps.all fun p => isTupD p.1) = true := by
      by_cases hc : (ps.all fun p => isTupD p.1) = true
      · exact hc
      · rw [if_neg hc] at ez; cases ez
    rw [if_pos hc] at ez
    cases ez
    exact ⟨a, xs, ep, rfl, s _ _ ha, q _ _ _ (Ext.refl s) (itX ha ra)⟩
  | _ => cases ez
end
end DL
set_option Elab.async false
set_option linter.all false
set_option maxRecDepth 100000
set_option maxHeartbeats 1000000
namespace DL
open PySem PySem.Spec PyProof.Rows L2
variable [TabCtx]
/-- k tells v and does nothing else -/
def CSem (X : Cx) (k : Sem Value) (v : L2.V) : Prop := ∀ (pins : List (Addr × Obj)) (s : Shared) (σ : L2.St) (H : Hp) (Q : Value → Shared → Prop), L2.Inv X pins σ H s → (∀ u s', L2.Inv X pins σ H s' → L2.RelV v u → Q u s') → wpAny (model X.prog X.w) X.A k Q X.xe s
inductive PairsC (X : Cx) : List (Sem Value × Sem Value) → List (Key × L2.V) → Prop
  | nil : PairsC X [] []
  | cons {a b : Sem Value} {k : Key} {v : L2.V} {ps : List (Sem Value × Sem Value)} {kvs : List (Key × L2.V)} : CSem X a (kV k) → CSem X b v → PairsC X ps kvs → PairsC X ((a, b) :: ps) ((k, v) :: kvs)
section
variable {X : Cx} {F : Fr} {pos : Pos}
theorem PairsC.len {ps : List (Sem Value × Sem Value)} {kvs : List (Key × L2.V)} (h : PairsC X ps kvs) : ps.length = kvs.length := by
  induction h with
  | nil => rfl
  | cons _ _ _ ih => rw [List.length_cons, List.length_cons, ih]
end
end DL
set_option Elab.async false
set_option linter.all false
set_option maxRecDepth 100000
set_option maxHeartbeats 2000000
namespace HD
open PySem PySem.Spec PyProof.Rows L2 HotX
section
variable {prog : Program} {w : World} {A : Around} {E : Value → Shared → Prop} {s : Shared}
theorem HotAt.kept {x1 : Addr} {h h' : Heap} (hot : HotAt A x1 h) (k : ∀ o, h.get? x1 = some o → h'.get? x1 = some o) : HotAt A x1 h' := by
  obtain ⟨hh, o1, vs1, h1, d1, c1⟩ := hot
  exact ⟨hh, o1, vs1, k _ h1, d1, c1⟩
end
end HD
set_option Elab.async false
set_option linter.all false
set_option maxRecDepth 100000
set_option maxHeartbeats 2000000
set_option Elab.async false
set_option linter.all false
set_option maxRecDepth 100000
set_option maxHeartbeats 2000000
set_option Elab.async false
set_option linter.all false
set_option maxRecDepth 100000
set_option maxHeartbeats 2000000
set_option Elab.async false
set_option linter.all false
set_option maxRecDepth 100000
set_option maxHeartbeats 2000000
set_option Elab.async false
set_option linter.all false
set_option maxRecDepth 100000
set_option maxHeartbeats 2000000
namespace HD
open PySem PySem.Spec PyProof.Rows L2 L2H HotX LamX
/-- the context of the lambda's body -/
abbrev lamN (X : Cx) (A : Around) (outer : List Env) (s : Shared) (H : Hp) (E : XK) (scope : Scope) (f c' : Addr) : Cx :=
  (lamCx X A outer s H E scope f c').tr [] fun e s' => wpAny (model X.prog X.w) (A.deeper (lamEnv X scope s.heap.objs.size f c')) (leaving (lamEnv X scope s.heap.objs.size f c') e) (fun _ s'' => L2N.CX X.prog X.w outer H s E e s'') (fun e' s'' => L2N.CX X.prog X.w outer H s E e' s'') s'
section
variable [DL.TabCtx] {X : Cx} {pins : List (Addr × Obj)} {σ : L2.St} {H : Hp} {s : Shared}
/-- a code object is new, its table grows -/
theorem ext_grown {V : Hp} {P n : Addr} {q : Str} {ps more : Array Value} {u : HO} (hP : H P = some (.tbl ps)) (hn : H n = none) (sv : Same V H) (vP : V P = none) (ht : Tabs DL.TBS H → Tabs DL.TBS (upd (upd H P (.tbl more)) n u)) : DL.Ext H V (upd (upd H P (.tbl more)) n u) V := by
  have nn : ∀ {b : Addr}, H b ≠ none → b ≠ n := fun {b} h z => h (by rw [z]; exact hn)
  have at_ : ∀ {b : Addr}, b ≠ P → b ≠ n → upd (upd H P (.tbl more)) n u b = H b := fun {b} h1 h2 => by rw [upd_ne h2, upd_ne h1]
  refine ⟨fun b o e nt => ?_, Same.refl _, fun b o e => ?_, fun _ z _ => z, fun b h => ?_, ht⟩
  · rw [at_ (fun z => nt ps (Option.some.inj (e.symm.trans (by rw [z]; exact hP)))) (nn (by rw [e]; exact fun z => nomatch z))]; exact e
  · have e2 := sv b o e
    rw [at_ (fun z => by rw [z, vP] at e; cases e) (nn (by rw [e2]; exact fun z => nomatch z))]; exact e2
  · by_cases hb : b = P
    · rw [hb, upd_ne (by rw [← hb]; exact nn h), upd_same]; exact fun z => nomatch z
    · rw [at_ hb (nn h)]; exact h
/-- the lambda is made; what is known of the heap behind -/
theorem lam_makeT {c P : Addr} {params : Arguments} {body : Expr} {scope : Scope} {pos : Pos} {E Q : Value → Shared → Prop} (TB : TabB X.base X.mg c P) (hcode : X.env.code = .ref c) (I : Inv X pins σ H s)
    (hm : (P, X.env.qual ++ "<lambda>") ∈ DL.TBS) (hu : ∀ p ∈ DL.TBS, p.1 = P → p.2 = X.env.qual ++ "<lambda>") (hT : Tabs DL.TBS H) (hdef : defaultsOf params X.env = ([], []))
    (hfree : ∀ y ∈ scope.names, y.2 = .free → ∃ c, X.env.cells.lookup y.1 = some c)
    (h : ∀ (f n : Addr) (pm ctv : Value) (H1 : Hp) (s1 : Shared), Inv X pins σ H1 s1 → (∀ V, Same V H → V P = none → DL.Ext H V H1 V) → H1 f = none → f ∉ frs X.stack → H1 n = some (CodeO n (X.env.qual ++ "<lambda>")) →
      s1.heap.get? f = some (PySem.W.kla_obj "<lambda>" (X.env.qual ++ "<lambda>") params body scope (cloFrom X.env.cells scope.names []) pm n ctv) → s.heap.objs.size ≤ f → Q (.ref f) s1) :
    wpAny (model X.prog X.w) X.A (eval (.Lambda params body scope pos) X.env) Q E s := by
  obtain ⟨tb, hP, tOk, tAll⟩ := hT _ hm
  have gP : s.heap.get? P = some { cls := .none, data := .fields tb } := I.hok P _ hP
  have far : ∀ b, s.heap.objs.size ≤ b → b ∉ frs X.stack := fun b hb z =>
    (List.mem_cons.mp (I.stkSub _ z)).elim (fun e => Nat.lt_irrefl _ (Nat.lt_of_lt_of_le (by have := I.lt; rw [← e] at this; exact this) hb)) fun e => I.nofs hb e
  refine PySem.W.kla_eval hdef ?_
  cases q : codeAmong pos tb.toList with
  | some cv =>
    obtain ⟨n, rfl, hn⟩ := tAll pos cv q
    refine PySem.W.kla_makeFunctionHit (mg := X.mg) (closure_ok hfree) I.ok.glob (I.mod.glob.keeps I.bk) hcode (TB.code.keeps I.bk) gP tOk q (TB.bm.keeps I.bk) fun ctv h1 tk k1 sz => ?_
    refine h h1.objs.size n ((X.mg "__name__").getD .none) ctv H _ ?_ (fun V sv _ => DL.Ext.refl sv) (I.hok.fresh sz) (far _ sz) hn (Heap.get?_push_size _ rfl) sz
    exact I.kept fun b o e => Heap.get?_push_of_some _ (k1 b o e)
  | none =>
    refine PySem.W.kla_makeFunction (mg := X.mg) (closure_ok hfree) I.ok.glob (I.mod.glob.keeps I.bk) hcode (TB.code.keeps I.bk) gP tOk q TB.gP (TB.bm.keeps I.bk) fun n ctv h1 tk k1 ge lt rc tb1 => ?_
    obtain ⟨_, ob, us, t, e0, e1, e2, e3⟩ := rc
    cases e0
    have hn : H n = none := I.hok.fresh ge
    have sz : s.heap.objs.size ≤ h1.objs.size := Nat.le_trans ge (Nat.le_of_lt lt)
    have nPn : P ≠ n := ne_of_none hP hn
    have J := inv_table (t' := tk) (q := X.env.qual ++ "<lambda>") (h' := h1.push (PySem.W.kla_obj "<lambda>" (X.env.qual ++ "<lambda>") params body scope (cloFrom X.env.cells scope.names []) ((X.mg "__name__").getD .none) n ctv)) I hP (fun b o hb e => Heap.get?_push_of_some _ (k1 b o hb e))
      (Heap.get?_push_of_some _ tb1) ge ⟨ob, us, t, Heap.get?_push_of_some _ e1, e2, e3⟩
    have kept : ∀ b u, H b = some u → (∀ ps, u ≠ .tbl ps) → upd (upd H P (.tbl (tb ++ #[rawInt pos.line, rawInt pos.col, .ref n]))) n (CodeO n (X.env.qual ++ "<lambda>")) b = some u := fun b u e nt => by
      rw [upd_ne (ne_of_none e hn), upd_ne (fun z => nt tb (Option.some.inj (e.symm.trans (by rw [z]; exact hP))))]; exact e
    refine h h1.objs.size n ((X.mg "__name__").getD .none) ctv _ _ J (fun V sv vP => ext_grown (q := X.env.qual) hP hn sv vP fun _ p hp => ?_) ?_ (far _ sz) upd_same (Heap.get?_push_size _ rfl) sz
    · by_cases hb : p.1 = P
      · rw [hu p hp hb, hb]
        have eL : (tb ++ #[rawInt pos.line, rawInt pos.col, .ref n]).toList = tb.toList ++ [rawInt pos.line, rawInt pos.col, .ref n] := by simp
        refine ⟨_, by rw [upd_ne nPn, upd_same], by rw [eL]; exact PySem.TriplesOk_snoc _ _ _ _ tOk, fun p2 v2 hv => ?_⟩
        rw [eL] at hv
        rcases among_app _ tOk hv with z | z
        · obtain ⟨d, d1, d2⟩ := tAll p2 v2 z
          exact ⟨d, d1, kept _ _ d2 codeO_ne⟩
        · exact ⟨n, z, upd_same⟩
      · obtain ⟨tb', a1, a2, a3⟩ := hT p hp
        refine ⟨tb', by rw [upd_ne (ne_of_none a1 hn), upd_ne hb]; exact a1, a2, fun p2 v2 hv => ?_⟩
        obtain ⟨d, d1, d2⟩ := a3 p2 v2 hv
        exact ⟨d, d1, kept _ _ d2 codeO_ne⟩
    · rw [upd_ne (Nat.ne_of_gt lt), upd_ne (Nat.ne_of_gt (Nat.lt_of_lt_of_le (Heap.lt_size gP) sz))]
      exact I.hok.fresh sz
end
end HD
set_option Elab.async false
set_option linter.all false
set_option maxRecDepth 100000
set_option maxHeartbeats 2000000
set_option Elab.async false
set_option linter.all false
set_option maxRecDepth 100000
set_option maxHeartbeats 2000000
set_option Elab.async false
set_option linter.all false
set_option maxRecDepth 100000
set_option maxHeartbeats 2000000
set_option Elab.async false
set_option linter.all false
set_option maxRecDepth 100000
set_option maxHeartbeats 2000000
namespace HD
open PySem PySem.Spec PyProof.Rows L2 L2H HotX LamX DL
variable [TabCtx]
/-- the refusals but Clash -/
def excs : List Str := ["BadChoir", "BadName", "BadStanding", "BadNumber", "BadRows", "BadLead", "BadWish", "Nothing", "Full", "BadText"]
def excs1 : List Str := ["BadChoir", "BadName", "BadStanding", "BadNumber", "BadRows", "BadLead", "BadWish", "Clash", "Nothing", "Full", "BadText"]
/-- what the classes say -/
structure ExcT (K : PySem.W.Frag) : Prop where
  c : ∀ c ∈ excs, ExcC K (He.ga K c)
  k : ∀ c ∈ excs, ∀ d ∈ excs1, PySem.W.kitOne K (.ref (He.ga K c)) (.ref (He.ga K d)) = some (decide (c = d))
  v : ∀ c ∈ excs, PySem.W.kitOne K (.ref (He.ga K c)) (.type "ValueError") = some true
  m : ∀ c ∈ excs, PySem.W.exmOne K (.ref (He.ga K c)) (.ref (He.ga K "Clash")) = some false ∧ PySem.W.exmOne K (.ref (He.ga K c)) (.ref (He.ga K "SongError")) = some true
theorem _root_.L2H.RoomH.units {k : Nat} {A : Around} (r : RoomH k A) : A.units + 64 < cLine := by have := r.un; omega
theorem _root_.L2H.RoomH.units0 {k : Nat} {A : Around} (r : RoomH k A) : A.units < cLine := by have := r.un; omega
def forget (ρ : Rho) : Rho := ρ.map fun s => match s with
  | .ow _ => .no
  | t => t
/-- the def x makes lambdas: its code object and the table -/
structure LamAt (K : PySem.W.Frag) (mg : Str → Option Value) (base : Heap) (x : Str) (cdv : Value) (c P : Addr) : Prop where
  code : cdv = .ref c
  tab : TabB base mg c P
  mem : (P, x ++ ".<locals>." ++ "<lambda>") ∈ TBS
  uniq : ∀ p ∈ TBS, p.1 = P → p.2 = x ++ ".<locals>." ++ "<lambda>"
end HD
set_option Elab.async false
set_option linter.all false
set_option maxRecDepth 100000
set_option maxHeartbeats 2000000
namespace HD
open PySem PySem.Spec PyProof.Rows L2 L2H HotX LamX DL He
def lamQ (x : Str) : Str := x ++ ".<locals>." ++ "<lambda>"
def tabsL (K : PySem.W.Frag) (ls : List Str) : List (Addr × Str) := ls.filterMap fun x => (tabOf K x).map fun q => (q.2, lamQ x)
def codesL (K : PySem.W.Frag) (ls : List Str) : List (Addr × Addr) := ls.filterMap fun x => tabOf K x
def frT (g : Addr → Option Obj) (n : Nat) (ls : List Str) : PySem.W.Frag := frG g ((asD g n).filter fun a => !((codesL (frG g (asD g n)) ls).any fun q => q.2 == a))
def isStrV : Value → Bool
  | .str _ _ => true
  | _ => false
def isIntV : Value → Bool
  | .int _ _ => true
  | _ => false
def isBoolV : Value → Bool
  | .bool _ => true
  | _ => false
def codeB (K : PySem.W.Frag) (c P : Addr) : Bool := match K.lookup c with
  | some ⟨.type t, _, .fields vs, _⟩ => decide (t = "code") && (decide (vs[11]? = some (.ref P)) && (isStrV (vs.getD 18 .none) && (isIntV (vs.getD 7 .none) && (isBoolV (vs.getD 9 .none) && (isIntV (vs.getD 10 .none) && !(c == P))))))
  | _ => false
def emptyTab : Option Obj → Bool
  | some ⟨.none, none, .fields vs, sl⟩ => vs.isEmpty && sl.isEmpty
  | _ => false
def lamB (g : Addr → Option Obj) (K : PySem.W.Frag) (ls : List Str) : Bool := (ls.all fun x => match tabOf K x with
  | some q => codeB K q.1 q.2 && (emptyTab (g q.2) && (K.lookup q.2).isNone)
  | none => false) && (((codesL K ls).map (·.2)).eraseDups.length == ls.length)
theorem codeB_ok {K : PySem.W.Frag} {h : Heap} (X : K.In h) {c P : Addr} (e : codeB K c P = true) : PySem.W.CodeHd h c P := by
  unfold codeB at e
  split at e
  · rename_i t od vs sl q
    obtain ⟨e1, e⟩ := ba e
    obtain ⟨e2, e⟩ := ba e
    obtain ⟨e3, e⟩ := ba e
    obtain ⟨e4, e⟩ := ba e
    obtain ⟨e5, e⟩ := ba e
    obtain ⟨e6, e7⟩ := ba e
    have e2 : vs[11]? = some (.ref P) := of_decide_eq_true e2
    have e1 : t = "code" := of_decide_eq_true e1
    subst e1
    have ne : c ≠ P := fun z => by rw [z] at e7; simp at e7
    have s1 : ∃ a b, vs.getD 18 .none = .str a b := by
      cases z : vs.getD 18 .none <;> rw [z] at e3 <;> first | exact ⟨_, _, rfl⟩ | cases e3
    have s2 : ∃ a b, vs.getD 7 .none = .int a b := by
      cases z : vs.getD 7 .none <;> rw [z] at e4 <;> first | exact ⟨_, _, rfl⟩ | cases e4
    have s3 : ∃ a, vs.getD 9 .none = .bool a := by
      cases z : vs.getD 9 .none <;> rw [z] at e5 <;> first | exact ⟨_, rfl⟩ | cases e5
    have s4 : ∃ a b, vs.getD 10 .none = .int a b := by
      cases z : vs.getD 10 .none <;> rw [z] at e6 <;> first | exact ⟨_, _, rfl⟩ | cases e6
    obtain ⟨a1, a2, s1⟩ := s1
    obtain ⟨b1, b2, s2⟩ := s2
    obtain ⟨c1, s3⟩ := s3
    obtain ⟨d1, d2, s4⟩ := s4
    refine ⟨_, vs, a1, a2, b1, b2, c1, d1, d2, X _ _ q, rfl, rfl, e2, ?_, s1, s2, s3, s4, ne⟩
    simp only [Array.getD_eq_getD_getElem?, e2]; rfl
  · cases e
theorem emptyTab_ok {o : Option Obj} (e : emptyTab o = true) : o = some { cls := .none, data := .fields #[] } := by
  unfold emptyTab at e
  split at e
  · obtain ⟨e1, e2⟩ := ba e
    rw [Array.isEmpty_iff.mp e1, Array.isEmpty_iff.mp e2]
  · cases e
/-- what is known of the defs that make lambdas -/
structure LamSays (K : PySem.W.Frag) (h : Heap) (ls : List Str) : Prop where
  at_ : ∀ x ∈ ls, ∃ c P, tabOf K x = some (c, P)
  tab : ∀ p ∈ codesL K ls, h.get? p.2 = some { cls := .none, data := .fields #[] } ∧ K.lookup p.2 = none ∧ PySem.W.CodeHd h p.1 p.2
  uniq : ((codesL K ls).map (·.2)).eraseDups.length = ls.length
theorem lamB_ok {K : PySem.W.Frag} {h : Heap} (X : K.In h) {ls : List Str} (e : lamB h.get? K ls = true) : LamSays K h ls := by
  obtain ⟨e1, e2⟩ := ba e
  have all := List.all_eq_true.mp e1
  refine ⟨fun x hx => ?_, fun p hp => ?_, by simpa using e2⟩
  · have := all x hx
    cases q : tabOf K x with
    | none => rw [q] at this; cases this
    | some r => exact ⟨r.1, r.2, rfl⟩
  · obtain ⟨x, hx, q⟩ := List.mem_filterMap.mp hp
    have := all x hx
    rw [q] at this
    obtain ⟨h1, h2⟩ := ba this
    obtain ⟨h2, h3⟩ := ba h2
    exact ⟨emptyTab_ok h2, by simpa using h3, codeB_ok X h1⟩
theorem LamSays.keeps {K : PySem.W.Frag} {h h' : Heap} {ls : List Str} (L : LamSays K h ls) (k : ∀ b o, h.get? b = some o → h'.get? b = some o) : LamSays K h' ls :=
  ⟨L.at_, fun p hp => ⟨k _ _ (L.tab p hp).1, (L.tab p hp).2.1, (L.tab p hp).2.2.keeps k⟩, L.uniq⟩
theorem erase_len {α β : Type} [BEq β] [LawfulBEq β] (l : List α) (f : α → Option β) (h : (l.filterMap f).eraseDups.length = l.length) : (l.filterMap f).Nodup := by
  have h1 : (l.filterMap f).length ≤ l.length := List.length_filterMap_le f l
  have h2 : ∀ m : List β, m.eraseDups.length ≤ m.length ∧ (m.eraseDups.length = m.length → m.Nodup) := by
    intro m
    induction hm : m.length using Nat.strongRecOn generalizing m with
    | _ n ih =>
      cases m with
      | nil => simp [List.eraseDups] at *
      | cons a r =>
        rw [List.eraseDups_cons]
        have hl := List.length_filter_le (fun b => !b == a) r
        have ih1 := ih (r.filter fun b => !b == a).length (by rw [← hm]; simp only [List.length_cons]; omega) _ rfl
        refine ⟨by rw [← hm]; simp only [List.length_cons]; omega, fun e => ?_⟩
        rw [← hm] at e
        simp only [List.length_cons] at e
        have ef : (r.filter fun b => !b == a).length = r.length := by omega
        have eq : r.filter (fun b => !b == a) = r := List.filter_eq_self.mpr (List.length_filter_eq_length_iff.mp ef)
        refine List.nodup_cons.mpr ⟨fun ha => ?_, ?_⟩
        · have := List.length_filter_eq_length_iff.mp ef a ha
          simp at this
        · have := ih1.2 (by omega)
          rw [eq] at this
          exact this
  exact (h2 _).2 (by have := (h2 (l.filterMap f)).1; omega)
def excB (K : PySem.W.Frag) : Bool := excs.all fun c =>
  (eqO (PySem.W.findIn K (.ref (ga K c)) "__getattribute__") (some (some (.builtin "BaseException.__getattribute__"))) && (eqO (PySem.W.findIn K (.ref (ga K c)) "__getattr__") (some none) && (decide (PySem.W.subIn K (.ref (ga K c)) (.type "BaseException") = some true) &&
    (PySem.W.hasDictIn K (ga K c) && (eqO (PySem.W.findIn K (.ref (ga K c)) "__class__") (some (some (.builtin "object.__class__"))) && (eqO (PySem.W.specialIn K (.builtin "object.__class__") "__get__") (some (some (.builtin "getset_descriptor.__get__"))) &&
      (decide (PySem.W.takesIn K (.builtin "object.__class__") = some true) && decide (PySem.W.mroIn K (ga K c) (.type "object") = some true)))))))) &&
  ((excs1.all fun d => decide (PySem.W.kitOne K (.ref (ga K c)) (.ref (ga K d)) = some (decide (c = d)))) && (decide (PySem.W.kitOne K (.ref (ga K c)) (.type "ValueError") = some true) &&
    (decide (PySem.W.exmOne K (.ref (ga K c)) (.ref (ga K "Clash")) = some false) && decide (PySem.W.exmOne K (.ref (ga K c)) (.ref (ga K "SongError")) = some true))))
theorem excB_ok {K : PySem.W.Frag} (e : excB K = true) : ExcT K := by
  have all := List.all_eq_true.mp e
  refine ⟨fun c hc => ?_, fun c hc d hd => ?_, fun c hc => ?_, fun c hc => ?_⟩
  · obtain ⟨e, _⟩ := ba (all c hc)
    obtain ⟨e1, e⟩ := ba e
    obtain ⟨e2, e⟩ := ba e
    obtain ⟨e3, e⟩ := ba e
    obtain ⟨e4, e⟩ := ba e
    obtain ⟨e5, e⟩ := ba e
    obtain ⟨e6, e⟩ := ba e
    obtain ⟨e7, e8⟩ := ba e
    exact ⟨eqO_ok e1, eqO_ok e2, of_decide_eq_true e3, e4, eqO_ok e5, eqO_ok e6, of_decide_eq_true e7, of_decide_eq_true e8⟩
  · obtain ⟨_, e⟩ := ba (all c hc)
    obtain ⟨e1, _⟩ := ba e
    exact of_decide_eq_true (List.all_eq_true.mp e1 d hd)
  · obtain ⟨_, e⟩ := ba (all c hc)
    obtain ⟨_, e⟩ := ba e
    obtain ⟨e1, _⟩ := ba e
    exact of_decide_eq_true e1
  · obtain ⟨_, e⟩ := ba (all c hc)
    obtain ⟨_, e⟩ := ba e
    obtain ⟨_, e⟩ := ba e
    obtain ⟨e1, e2⟩ := ba e
    exact ⟨of_decide_eq_true e1, of_decide_eq_true e2⟩
def obsL (fa : List Fa) (fn : List DefD) (ls : List Str) (ex : Bool) (g : Addr → Option Obj) (K : PySem.W.Frag) : AlD × Bool := (obsD fa fn K, lamB g K ls && (!ex || excB K))
def obsLG (n : Nat) (fa : List Fa) (fn : List DefD) (ls : List Str) (ex : Bool) (g : Addr → Option Obj) : AlD × Bool := obsL fa fn ls ex g (frT g n ls)
def hookL (n : Nat) (fa : List Fa) (fn : List DefD) (ls : List Str) (ex : Bool) : PySem.W.Hook where
  α := AlD × Bool
  obs := fun s => obsLG n fa fn ls ex s.heap.get?
  val := fun _ => (valD fn, true)
  says := fun _ h => ∃ K : PySem.W.Frag, K.In h ∧ SaysD fa fn K ∧ LamSays K h ls ∧ (ex = true → ExcT K)
  of := fun _ s e => by
    have e1 : obsD fa fn (frT s.heap.get? n ls) = valD fn := congrArg Prod.fst e
    have e2 : (lamB s.heap.get? (frT s.heap.get? n ls) ls && (!ex || excB (frT s.heap.get? n ls))) = true := congrArg Prod.snd e
    obtain ⟨e3, e4⟩ := ba e2
    exact ⟨_, frG_in, e1, lamB_ok frG_in e3, fun z => excB_ok (by rw [z] at e4; exact e4)⟩
  keeps := fun _ _ _ ⟨K, hK, c, l, x⟩ k => ⟨K, PySem.W.Frag.In.keeps hK k, c, l.keeps k, x⟩
theorem obsLG_eq {n : Nat} {fa : List Fa} {fn : List DefD} {ls : List Str} {ex : Bool} {g : Addr → Option Obj} {s : Shared} (h : ∀ a, g a = s.heap.get? a) : obsLG n fa fn ls ex g = (hookL n fa fn ls ex).obs s := by
  have e : g = s.heap.get? := funext h
  rw [e] <;> rfl
/-- the tables of a law -/
@[reducible] def ctxL (K : PySem.W.Frag) (ls : List Str) : TabCtx := ⟨tabsL K ls⟩
theorem lamAt_of {K : PySem.W.Frag} {h : Heap} {ls : List Str} {mg : Str → Option Value} {base : Heap} (L : LamSays K h ls) (TB : ∀ p ∈ codesL K ls, TabB base mg p.1 p.2) {x : Str} (hx : x ∈ ls) {fd : FuncData} {oc : Value} {od : Option Addr} {osl : Array (Option Value)} (lk : K.lookup (ga K x) = some ⟨oc, od, .func fd, osl⟩) :
    letI := ctxL K ls; ∃ c P, LamAt K mg base x fd.code c P := by
  letI := ctxL K ls
  obtain ⟨c, P, e⟩ := L.at_ x hx
  have mem : (c, P) ∈ codesL K ls := List.mem_filterMap.mpr ⟨x, hx, e⟩
  have mT : (P, lamQ x) ∈ tabsL K ls := List.mem_filterMap.mpr ⟨x, hx, by rw [e]; rfl⟩
  refine ⟨c, P, ?_, TB _ mem, mT, fun p hp ep => ?_⟩
  · unfold tabOf at e
    rw [lk] at e
    dsimp only at e
    split at e
    · rename_i c' ec
      split at e
      · split at e
        · cases e; exact ec
        · cases e
      · cases e
    · cases e
  · obtain ⟨y, hy, ey⟩ := List.mem_filterMap.mp (show p ∈ tabsL K ls from hp)
    obtain ⟨q, e3, e4⟩ := Option.map_eq_some_iff.mp ey
    subst e4
    have nd : (ls.filterMap fun x => (tabOf K x).map (·.2)).Nodup := by
      refine erase_len ls _ ?_
      have z := L.uniq
      unfold codesL at z
      rw [List.map_filterMap] at z
      exact z
    -- two of them at one place are one
    have key : ∀ l : List Str, (l.filterMap fun x => (tabOf K x).map (·.2)).Nodup → x ∈ l → y ∈ l → x = y := by
      intro l
      induction l with
      | nil => intro _ h; cases h
      | cons z r ih =>
        intro nd h1 h2
        have mm : ∀ {u : Str} {q : Addr × Addr}, tabOf K u = some q → u ∈ r → q.2 ∈ r.filterMap fun x => (tabOf K x).map (·.2) := fun {u q} h1 h2 => List.mem_filterMap.mpr ⟨u, h2, by rw [h1]; rfl⟩
        rcases List.mem_cons.mp h1 with rfl | h3
        · rcases List.mem_cons.mp h2 with rfl | h2
          · rfl
          · rw [List.filterMap_cons, e] at nd
            exact absurd (by have := mm e3 h2; rw [show q.2 = P from ep] at this; exact this) (List.nodup_cons.mp nd).1
        · rcases List.mem_cons.mp h2 with rfl | h2
          · rw [List.filterMap_cons, e3] at nd
            exact absurd (by have := mm e h3; rw [← (show q.2 = P from ep)] at this; exact this) (List.nodup_cons.mp nd).1
          · refine ih ?_ h3 h2
            rw [List.filterMap_cons] at nd
            cases ez : (tabOf K z).map (·.2) with
            | none => rw [ez] at nd; exact nd
            | some w => rw [ez] at nd; exact (List.nodup_cons.mp nd).2
    have := key ls nd hx hy
    subst this
    rfl
theorem tabs_start {K : PySem.W.Frag} {ls : List Str} {H : Hp} (hH : ∀ p ∈ codesL K ls, H p.2 = some (.tbl #[])) : Tabs (tabsL K ls) H := fun p hp => by
  obtain ⟨x, hx, e⟩ := List.mem_filterMap.mp hp
  obtain ⟨q, e1, e2⟩ := Option.map_eq_some_iff.mp e
  subst e2
  exact TabS.nil (hH q (List.mem_filterMap.mpr ⟨x, hx, e1⟩))
end HD
set_option Elab.async false
set_option linter.all false
set_option maxRecDepth 100000
set_option maxHeartbeats 4000000
namespace G
open PySem PySem.Spec PyProof.Rows L2 DL
variable [TabCtx]
def top (i : Nat) : Stmt := PySem.Challenge.pw_hearsong_k08_whole_soonest.main.body.getD i (.Pass ⟨0, 0, 0, 0⟩)
abbrev s_is_whole : Stmt := top 9
abbrev s_is_word : Stmt := top 10
abbrev s_rise : Stmt := top 11
abbrev s_are_lines : Stmt := top 12
abbrev s_is_ear : Stmt := top 13
abbrev s_are_ears : Stmt := top 14
abbrev s_places_for : Stmt := top 15
abbrev s_is_singer : Stmt := top 16
abbrev s_is_choir : Stmt := top 17
abbrev s_need_choir : Stmt := top 18
abbrev s_all_names : Stmt := top 19
abbrev s_is_good_standing : Stmt := top 20
abbrev s_need_standing : Stmt := top 21
abbrev s_need_name : Stmt := top 22
abbrev s_number_of : Stmt := top 23
abbrev s_heard_by : Stmt := top 24
abbrev s_place_of : Stmt := top 25
abbrev s_table_line : Stmt := top 26
abbrev s_all_next : Stmt := top 27
abbrev s_behind : Stmt := top 28
abbrev s_on : Stmt := top 29
abbrev s_do_count : Stmt := top 31
abbrev s_ears_that_count : Stmt := top 32
abbrev s_lean_singer : Stmt := top 33
abbrev s_leaned : Stmt := top 34
abbrev s_lean : Stmt := top 35
abbrev s_all_soonest : Stmt := top 36
abbrev s_soonest : Stmt := top 37
abbrev s_reaches : Stmt := top 38
abbrev s_need_both : Stmt := top 41
abbrev s_need_beats : Stmt := top 42
abbrev s_rows_of : Stmt := top 43
abbrev s_is_lead : Stmt := top 45
abbrev s_need_leads : Stmt := top 46
abbrev s_led_lines : Stmt := top 47
abbrev s_led_rows : Stmt := top 48
abbrev s_changed : Stmt := top 49
abbrev s_law_cell : Stmt := top 51
abbrev s_law_drawn : Stmt := top 52
abbrev s_law_roll : Stmt := top 53
abbrev s_law_rounds : Stmt := top 54
abbrev s_law_any_singers : Stmt := top 55
abbrev s_law_any_choir : Stmt := top 56
abbrev s_law_any_standing : Stmt := top 57
abbrev s_law_crew : Stmt := top 58
abbrev s_law : Stmt := top 59
abbrev lams : List Str := ["all_soonest"]
end G
set_option maxHeartbeats 0
namespace Head
open PySem PySem.Spec PyProof.Rows L2 DL G
def d_is_whole : He.DefD := ⟨("is_whole", none), "is_whole", "is_whole", defArgs s_is_whole, defBody s_is_whole, defScope s_is_whole, [], []⟩
def d_is_word : He.DefD := ⟨("is_word", none), "is_word", "is_word", defArgs s_is_word, defBody s_is_word, defScope s_is_word, [], []⟩
def d_rise : He.DefD := ⟨("rise", none), "rise", "rise", defArgs s_rise, defBody s_rise, defScope s_rise, [], []⟩
def d_are_lines : He.DefD := ⟨("are_lines", none), "are_lines", "are_lines", defArgs s_are_lines, defBody s_are_lines, defScope s_are_lines, [], []⟩
def d_is_ear : He.DefD := ⟨("is_ear", none), "is_ear", "is_ear", defArgs s_is_ear, defBody s_is_ear, defScope s_is_ear, [], []⟩
def d_are_ears : He.DefD := ⟨("are_ears", none), "are_ears", "are_ears", defArgs s_are_ears, defBody s_are_ears, defScope s_are_ears, [], []⟩
def d_places_for : He.DefD := ⟨("places_for", none), "places_for", "places_for", defArgs s_places_for, defBody s_places_for, defScope s_places_for, [], []⟩
def d_is_singer : He.DefD := ⟨("is_singer", none), "is_singer", "is_singer", defArgs s_is_singer, defBody s_is_singer, defScope s_is_singer, [], []⟩
def d_is_choir : He.DefD := ⟨("is_choir", none), "is_choir", "is_choir", defArgs s_is_choir, defBody s_is_choir, defScope s_is_choir, [], []⟩
def d_need_choir : He.DefD := ⟨("need_choir", none), "need_choir", "need_choir", defArgs s_need_choir, defBody s_need_choir, defScope s_need_choir, [], []⟩
def d_all_names : He.DefD := ⟨("all_names", none), "all_names", "all_names", defArgs s_all_names, defBody s_all_names, defScope s_all_names, [], []⟩
def d_is_good_standing : He.DefD := ⟨("is_good_standing", none), "is_good_standing", "is_good_standing", defArgs s_is_good_standing, defBody s_is_good_standing, defScope s_is_good_standing, [], []⟩
def d_need_standing : He.DefD := ⟨("need_standing", none), "need_standing", "need_standing", defArgs s_need_standing, defBody s_need_standing, defScope s_need_standing, [], []⟩
def d_need_name : He.DefD := ⟨("need_name", none), "need_name", "need_name", defArgs s_need_name, defBody s_need_name, defScope s_need_name, [], []⟩
def d_number_of : He.DefD := ⟨("number_of", none), "number_of", "number_of", defArgs s_number_of, defBody s_number_of, defScope s_number_of, [], []⟩
def d_heard_by : He.DefD := ⟨("heard_by", none), "heard_by", "heard_by", defArgs s_heard_by, defBody s_heard_by, defScope s_heard_by, [], []⟩
def d_place_of : He.DefD := ⟨("place_of", none), "place_of", "place_of", defArgs s_place_of, defBody s_place_of, defScope s_place_of, [], []⟩
def d_table_line : He.DefD := ⟨("table_line", none), "table_line", "table_line", defArgs s_table_line, defBody s_table_line, defScope s_table_line, [], []⟩
def d_all_next : He.DefD := ⟨("all_next", none), "all_next", "all_next", defArgs s_all_next, defBody s_all_next, defScope s_all_next, [], []⟩
def d_behind : He.DefD := ⟨("behind", none), "behind", "behind", defArgs s_behind, defBody s_behind, defScope s_behind, [], []⟩
def d_on : He.DefD := ⟨("on", none), "on", "on", defArgs s_on, defBody s_on, defScope s_on, [], []⟩
def d_do_count : He.DefD := ⟨("do_count", none), "do_count", "do_count", defArgs s_do_count, defBody s_do_count, defScope s_do_count, [], []⟩
def d_ears_that_count : He.DefD := ⟨("ears_that_count", none), "ears_that_count", "ears_that_count", defArgs s_ears_that_count, defBody s_ears_that_count, defScope s_ears_that_count, [], []⟩
def d_lean_singer : He.DefD := ⟨("lean_singer", none), "lean_singer", "lean_singer", defArgs s_lean_singer, defBody s_lean_singer, defScope s_lean_singer, [], []⟩
def d_leaned : He.DefD := ⟨("leaned", none), "leaned", "leaned", defArgs s_leaned, defBody s_leaned, defScope s_leaned, [], []⟩
def d_lean : He.DefD := ⟨("lean", none), "lean", "lean", defArgs s_lean, defBody s_lean, defScope s_lean, [], []⟩
def d_all_soonest : He.DefD := ⟨("all_soonest", none), "all_soonest", "all_soonest", defArgs s_all_soonest, defBody s_all_soonest, defScope s_all_soonest, [], []⟩
def d_soonest : He.DefD := ⟨("soonest", none), "soonest", "soonest", defArgs s_soonest, defBody s_soonest, defScope s_soonest, [], []⟩
def d_reaches : He.DefD := ⟨("reaches", none), "reaches", "reaches", defArgs s_reaches, defBody s_reaches, defScope s_reaches, [], []⟩
def d_need_both : He.DefD := ⟨("need_both", none), "need_both", "need_both", defArgs s_need_both, defBody s_need_both, defScope s_need_both, [], []⟩
def d_need_beats : He.DefD := ⟨("need_beats", none), "need_beats", "need_beats", defArgs s_need_beats, defBody s_need_beats, defScope s_need_beats, [], []⟩
def d_rows_of : He.DefD := ⟨("rows_of", none), "rows_of", "rows_of", defArgs s_rows_of, defBody s_rows_of, defScope s_rows_of, [], []⟩
def d_is_lead : He.DefD := ⟨("is_lead", none), "is_lead", "is_lead", defArgs s_is_lead, defBody s_is_lead, defScope s_is_lead, [], []⟩
def d_need_leads : He.DefD := ⟨("need_leads", none), "need_leads", "need_leads", defArgs s_need_leads, defBody s_need_leads, defScope s_need_leads, [], []⟩
def d_led_lines : He.DefD := ⟨("led_lines", none), "led_lines", "led_lines", defArgs s_led_lines, defBody s_led_lines, defScope s_led_lines, [], []⟩
def d_led_rows : He.DefD := ⟨("led_rows", none), "led_rows", "led_rows", defArgs s_led_rows, defBody s_led_rows, defScope s_led_rows, [], []⟩
def d_changed : He.DefD := ⟨("changed", none), "changed", "changed", defArgs s_changed, defBody s_changed, defScope s_changed, [], []⟩
def d_law_cell : He.DefD := ⟨("_law_cell", none), "_law_cell", "_law_cell", defArgs s_law_cell, defBody s_law_cell, defScope s_law_cell, [], []⟩
def d_law_drawn : He.DefD := ⟨("_law_drawn", none), "_law_drawn", "_law_drawn", defArgs s_law_drawn, defBody s_law_drawn, defScope s_law_drawn, [], []⟩
def d_law_roll : He.DefD := ⟨("_law_roll", none), "_law_roll", "_law_roll", defArgs s_law_roll, defBody s_law_roll, defScope s_law_roll, [], []⟩
def d_law_rounds : He.DefD := ⟨("_law_rounds", none), "_law_rounds", "_law_rounds", defArgs s_law_rounds, defBody s_law_rounds, defScope s_law_rounds, [], []⟩
def d_law_any_singers : He.DefD := ⟨("_law_any_singers", none), "_law_any_singers", "_law_any_singers", defArgs s_law_any_singers, defBody s_law_any_singers, defScope s_law_any_singers, [], []⟩
def d_law_any_choir : He.DefD := ⟨("_law_any_choir", none), "_law_any_choir", "_law_any_choir", defArgs s_law_any_choir, defBody s_law_any_choir, defScope s_law_any_choir, [], []⟩
def d_law_any_standing : He.DefD := ⟨("_law_any_standing", none), "_law_any_standing", "_law_any_standing", defArgs s_law_any_standing, defBody s_law_any_standing, defScope s_law_any_standing, [], []⟩
def d_law_crew : He.DefD := ⟨("_law_crew", none), "_law_crew", "_law_crew", defArgs s_law_crew, defBody s_law_crew, defScope s_law_crew, [], []⟩
def d_law : He.DefD := ⟨("law", none), "law", "law", defArgs s_law, defBody s_law, defScope s_law, [], []⟩
def fn : List He.DefD := [d_is_whole, d_is_word, d_rise, d_are_lines, d_is_ear, d_are_ears, d_places_for, d_is_singer, d_is_choir, d_need_choir, d_all_names, d_is_good_standing, d_need_standing, d_need_name, d_number_of, d_heard_by, d_place_of, d_table_line, d_all_next, d_behind, d_on, d_do_count, d_ears_that_count, d_lean_singer, d_leaned, d_lean, d_all_soonest, d_soonest, d_reaches, d_need_both, d_need_beats, d_rows_of, d_is_lead, d_need_leads, d_led_lines, d_led_rows, d_changed, d_law_cell, d_law_drawn, d_law_roll, d_law_rounds, d_law_any_singers, d_law_any_choir, d_law_any_standing, d_law_crew, d_law]
def fa : List He.Fa := [.glo "is_whole", .glo "is_word", .glo "rise", .glo "are_lines", .glo "is_ear", .glo "are_ears", .glo "places_for", .glo "is_singer", .glo "is_choir", .glo "need_choir", .glo "all_names", .glo "is_good_standing", .glo "need_standing", .glo "need_name", .glo "number_of", .glo "heard_by", .glo "place_of", .glo "table_line", .glo "all_next", .glo "behind", .glo "on", .glo "do_count", .glo "ears_that_count", .glo "lean_singer", .glo "leaned", .glo "lean", .glo "all_soonest", .glo "soonest", .glo "reaches", .glo "need_both", .glo "need_beats", .glo "rows_of", .glo "is_lead", .glo "need_leads", .glo "led_lines", .glo "led_rows", .glo "changed", .glo "_law_cell", .glo "_law_drawn", .glo "_law_roll", .glo "_law_rounds", .glo "_law_any_singers", .glo "_law_any_choir", .glo "_law_any_standing", .glo "_law_crew", .glo "law", .glo "SongError", .glo "BadChoir", .glo "BadName", .glo "BadStanding", .glo "BadNumber", .glo "BadLead", .exc "SongError", .exc "BadChoir", .exc "BadName", .exc "BadStanding", .exc "BadNumber", .exc "BadLead", .str "SMALL" "abcdefghijklmnopqrstuvwxyz", .int "LONGEST" 500, .free "all", .free "bool", .free "dict", .free "enumerate", .free "int", .free "isinstance", .free "len", .free "list", .free "max", .free "min", .free "range", .free "set", .free "sorted", .free "str", .free "tuple", .free "zip"]
abbrev R : PySem.W.OpenRow := PySem.W.OpenLaw.row PySem.Challenge.rw_hearsong_k08_whole_soonest
abbrev hk : PySem.W.Hook := HD.hookL 4 fa fn lams false
def ob (s : PySem.W.SharedT) : He.AlD × Bool := HD.obsLG 4 fa fn lams false (HandSHeadRun.getT s)
theorem ob_eq (s : PySem.W.SharedT) : ob s = hk.obs s.abs := HD.obsLG_eq (HandSHeadRun.getT_eq s)
def lo0 : List PySem.Str := ["is_whole", "is_word", "rise", "are_lines", "is_ear", "are_ears", "places_for", "is_singer", "is_choir", "need_choir", "all_names", "is_good_standing", "need_standing", "need_name", "number_of", "heard_by", "place_of", "table_line", "all_next", "behind", "on", "do_count", "ears_that_count", "lean_singer", "leaned", "lean", "all_soonest", "soonest", "reaches", "need_both"]
def lo1 : List PySem.Str := ["need_beats", "rows_of", "is_lead", "need_leads", "led_lines", "led_rows", "changed", "_law_cell", "_law_drawn", "_law_roll", "_law_rounds", "_law_any_singers", "_law_any_choir", "_law_any_standing", "_law_crew", "SongError", "BadChoir", "BadName", "BadStanding", "BadNumber", "BadLead", "SMALL", "LONGEST"]
def loose : List PySem.Str := lo0 ++ lo1
theorem run (w : World) : HandSHeadRun.RunEq R (PySem.W.view R.prog [59]) hk ob 9000 loose w := by
  intro os
  kernel_rfl
end Head
set_option Elab.async false
set_option linter.all false
set_option maxRecDepth 100000
set_option maxHeartbeats 2000000
namespace HD
open PySem PySem.Spec PyProof.Rows L2 L2H HotX LamX DL
/-- the def x of K makes lambdas -/
def LamK [TabCtx] (K : PySem.W.Frag) (mg : Str → Option Value) (base : Heap) (x : Str) : Prop := ∀ (fd : FuncData) (oc : Value) (od : Option Addr) (osl : Array (Option Value)), K.lookup (He.ga K x) = some ⟨oc, od, .func fd, osl⟩ → ∃ c P, LamAt K mg base x fd.code c P
def LamKs [TabCtx] (K : PySem.W.Frag) (mg : Str → Option Value) (base : Heap) (ls : List Str) : Prop := ∀ x ∈ ls, LamK K mg base x
theorem lamKs {K : PySem.W.Frag} {h : Heap} {ls : List Str} {mg : Str → Option Value} {base : Heap} (L : LamSays K h ls) (TB : ∀ p ∈ codesL K ls, TabB base mg p.1 p.2) : letI := ctxL K ls; LamKs K mg base ls := by
  letI := ctxL K ls
  intro x hx fd oc od osl lk
  exact lamAt_of L TB hx lk
theorem cx_no {P : Program} {w : World} {H : Hp} {s : Shared} {e : Value} {s' : Shared} (h : L2N.CX P w [] H s (fun _ _ _ => False) e s') : False := by
  letI : TabCtx := ⟨[]⟩
  exact DL.cxe_no (P := P) ⟨w, h⟩
variable [TabCtx]
section
variable {P : Program} {w : World} {K : PySem.W.Frag} {mg : Str → Option Value} {base : Heap} {x : Str} {params : Arguments} {body : List Stmt} {scope : Scope} {fd : FuncData}
theorem fn_mkC {N ps : List Str} {k : Nat} {f : SM} (D : FunD K x x params body scope [] [] (He.ga K x) fd) (hx : mg x = some (.ref (He.ga K x))) (S : FnScope N ps scope)
    (hbd : ∀ (kV doc pm : Value) (an : Option Addr) (cdv ct : Value) (us : List Value), us.length = ps.length → bindArgs (PySem.W.fnOf x x params body scope .none kV doc pm an cdv ct) ⟨us, []⟩ = pure (ps.zip us))
    (hps : ps.length ≤ N.length) (LM : LamK K mg base x)
    (hb : ∀ (cdv : Value) (c Pt : Addr) (A : Around) (outer : List Env) (s : Shared) (H V : Hp) (E : XK), LamAt K mg base x cdv c Pt → Room k (A.deeper (envOfC x scope s.heap.objs.size (He.ga K x) cdv)) → PMSs (cxF P w K mg base N x scope cdv A outer s H E) (mkF H V E) body f) :
    FnD P w K mg base (k + 1) x ps (fnRun ps.length N.length f) := by
  have hbb := D.bindsN hbd
  obtain ⟨oc, od, dV, kV, doc, pm, an, cdv, ct, osl, rfl, lk, hcd, _, _⟩ := D.ex
  obtain ⟨c, Pt, LA⟩ := LM _ _ _ _ lk
  refine ⟨_, fn_of (CX := L2N.CX P w) lk hcd S (fun vs H Q E h => h.1) fun A outer s H vs Q E hr h => ?_, hbb, D.kp, hx, fun ds h => ?_⟩
  · obtain ⟨hl, V, ds, ht, sv, r, g⟩ := h
    refine ⟨_, hb cdv c Pt A outer s H V E LA hr, V, start0 N.length ds, repL_get r rfl (by omega) sv ht, ?_⟩
    unfold fnRun at g
    rw [if_pos (by rw [← r.length]; exact hl)] at g
    show GoalS ⟨K, w⟩ (mkF H V E) V (f (start0 N.length ds)) _
    cases e : f (start0 N.length ds) with
    | rt d ρ' => rw [e] at g; exact fun v σ' H' V' E' _ r' => g v H' V' E'.ext r'
    | rf d ρ' => rw [e] at g; exact fun v σ' H' V' E' _ r' _ => g v H' V' E'.ext r'
    | nx ρ' => rw [e] at g; exact fun σ' H' V' E' _ => g .non H' V' E'.ext .non
    | exc c => rw [e] at g; exact fun σ' H' V' x => g H' V' x
    | bk ρ' => rw [e] at g; exact False.elim g
    | ct ρ' => rw [e] at g; exact False.elim g
    | bad => rw [e] at g; exact False.elim g
  · unfold fnRun at h
    by_cases hl : ds.length = ps.length
    · exact hl
    · rw [if_neg hl] at h; exact absurd rfl h
end
end HD
set_option Elab.async false
set_option linter.all false
set_option maxRecDepth 100000
set_option maxHeartbeats 2000000
namespace HD
open PySem PySem.Spec PyProof.Rows L2 L2H HotX LamX DL
variable [TabCtx]
def Kept (P : Program) (w : World) (f : Addr) (h : Heap) : Prop := ∃ k, (k = Keeper.frame ∨ k = Keeper.machine ∨ k = Keeper.boundFrame) ∧ PySem.W.Looks (model P w) h (keeperOf (.ref f)) k
/-- what stands at f can be called: data in, data out -/
structure CbAt (P : Program) (w : World) (K : PySem.W.Frag) (mg : Str → Option Value) (base : Heap) (lvl : Nat) (H V : Hp) (f : Addr) (cb : List PyData → Option PyData) : Prop where
  run : ∀ (H' V' : Hp), Ext H V H' V' → TabV H' V' → ∀ (A : Around) (outer : List Env) (s : Shared) (us : List Value) (vs : List L2.V) (ds : List PyData) (d : PyData) (Q : VK), Room lvl A → Env0 P w K mg base A outer s H' → Vals vs us → RepL ⟨K, w⟩ V' vs ds → cb ds = some d →
    (∀ v H2 V2, Ext H' V' H2 V2 → Rep ⟨K, w⟩ V2 v d → Q v H2) → codeAny (model P w) A (.call (.ref f) ⟨us, []⟩) (CR C8.CX0 outer P w H' s Q C8.E0) s
  fn : ∀ (H' V' : Hp), Ext H V H' V' → ∀ h : Heap, HOk P w H' h → K.In h → Kept P w f h
theorem CbAt.mono {P : Program} {w : World} {K : PySem.W.Frag} {mg : Str → Option Value} {base : Heap} {lvl : Nat} {H V H1 V1 : Hp} {f : Addr} {cb : List PyData → Option PyData} (C : CbAt P w K mg base lvl H V f cb) (e : Ext H V H1 V1) : CbAt P w K mg base lvl H1 V1 f cb :=
  ⟨fun H' V' x => C.run H' V' (e.trans x), fun H' V' x => C.fn H' V' (e.trans x)⟩
end HD
set_option Elab.async false
set_option linter.all false
set_option maxRecDepth 100000
set_option maxHeartbeats 2000000
namespace HD
open PySem PySem.Spec PyProof.Rows L2 L2H HotX LamX DL
def fzO (b : Addr) (o : Obj) : HO := .frz o (.ext fun h => h.get? b = some o)
theorem fzO_ok {P : Program} {w : World} {H : Hp} {h : Heap} {b : Addr} {o : Obj} (e : h.get? b = some o) : ObjOk P w H h b (fzO b o) := ⟨e, e, ⟨o, e⟩, fun h1 h2 p st => st _ p⟩
theorem fzO_get {P : Program} {w : World} {H : Hp} {h : Heap} {b : Addr} {o : Obj} (x : HOk P w H h) (e : H b = some (fzO b o)) : h.get? b = some o := (x b _ e).1
def Ov (cs : List Addr) (G H : Hp) : Hp := fun b => if b ∈ cs then G b else H b
theorem ov_in {cs : List Addr} {G H : Hp} {b : Addr} (h : b ∈ cs) : Ov cs G H b = G b := if_pos h
theorem ov_out {cs : List Addr} {G H : Hp} {b : Addr} (h : b ∉ cs) : Ov cs G H b = H b := if_neg h
abbrev noH : Hp := fun _ => none
section
variable {P : Program} {w : World} {H H' G H3 : Hp} {h h' : Heap} {cs fs : List Addr}
theorem hok_ov (x : HOk P w H h) (hH : ∀ b ∈ cs, H b = none ∨ ∃ o, H b = some (fzO b o)) (hG : ∀ b ∈ cs, G b = none ∨ ∃ o, G b = some (fzO b o) ∧ h.get? b = some o) : HOk P w (Ov cs G H) h := fun a o e => by
  by_cases ha : a ∈ cs
  · rw [ov_in ha] at e
    rcases hG a ha with z | ⟨ob, z, q⟩
    · rw [z] at e; cases e
    · rw [z] at e; cases e; exact fzO_ok q
  · rw [ov_out ha] at e
    have nn : ∀ b u, H b = some u → (∀ o, u ≠ fzO b o) → b ∉ cs := fun b u q n hb => by
      rcases hH b hb with z | ⟨ob, z⟩
      · rw [z] at q; cases q
      · rw [z] at q; cases q; exact n ob rfl
    refine (x a o e).stay (fun b u _ q => q) (fun b q => ?_) fun b xs q => ?_
    · rw [ov_out (nn b _ q (fun o z => by unfold fzO at z; cases z))]; exact q
    · rw [ov_out (nn b _ q (fun o z => by unfold fzO at z; cases z))]; exact q
theorem un_thaw (u : Un fs [] (Ov cs G H) H' h h') (hH : ∀ b ∈ cs, H b = none) (hG : ∀ b ∈ cs, ∃ o, G b = some (fzO b o) ∧ h.get? b = some o) (ok : HOk P w H' h') : Un fs [] H (Ov cs noH H') h h' := by
  have nn : ∀ b x, H b = some x → b ∉ cs := fun b x e hb => by rw [hH b hb] at e; cases e
  have kc : ∀ b o, b ∈ cs → h.get? b = some o → h'.get? b = some o := fun b o hb q => by
    obtain ⟨o', g, q'⟩ := hG b hb
    rw [q] at q'; cases q'
    exact fzO_get ok (u.frzs b o _ (by rw [ov_in hb]; exact g))
  refine ⟨fun b o q n hb hx => ?_, fun b o q n hb hx => ?_, fun b o q n hx => ?_, fun b o q hx => u.there b o q hx, fun b xs q => ?_, fun b o x q => ?_, fun b ps q => ?_⟩
  · by_cases hc : b ∈ cs
    · exact kc b o hc q
    · exact u.keep b o q (by rw [ov_out hc]; exact n) hb hx
  · by_cases hc : b ∈ cs
    · exact ⟨o.slots, kc b o hc q⟩
    · exact u.slot b o q (by rw [ov_out hc]; exact n) hb hx
  · by_cases hc : b ∈ cs
    · rw [ov_in hc]
    · rw [ov_out hc]; exact u.free b o q (by rw [ov_out hc]; exact n) hx
  · have hc := nn b _ q
    rw [ov_out hc]; exact u.tups b xs (by rw [ov_out hc]; exact q)
  · have hc := nn b _ q
    rw [ov_out hc]; exact u.frzs b o x (by rw [ov_out hc]; exact q)
  · have hc := nn b _ q
    rw [ov_out hc]; exact u.tbls b ps (by rw [ov_out hc]; exact q)
theorem un_frz (u : Un fs [] (Ov cs noH H') H3 h h') (hH : ∀ b ∈ cs, ∃ o, H' b = some (fzO b o) ∧ h.get? b = some o) : Un fs [] H' (Ov cs H' H3) h h' := by
  have nn : ∀ b, H' b = none → b ∉ cs := fun b e hb => by obtain ⟨o, z, _⟩ := hH b hb; rw [z] at e; cases e
  have nf : ∀ b x, H' b = some x → (∀ o, x ≠ fzO b o) → b ∉ cs := fun b x e n hb => by obtain ⟨o, z, _⟩ := hH b hb; rw [z] at e; cases e; exact n o rfl
  refine ⟨fun b o q n hb hx => ?_, fun b o q n hb hx => ?_, fun b o q n hx => ?_, fun b o q hx => u.there b o q hx, fun b xs q => ?_, fun b o x q => ?_, fun b ps q => ?_⟩
  · exact u.keep b o q (by rw [ov_out (nn b n)]; exact n) hb hx
  · exact u.slot b o q (by rw [ov_out (nn b n)]; exact n) hb hx
  · rw [ov_out (nn b n)]; exact u.free b o q (by rw [ov_out (nn b n)]; exact n) hx
  · have hc := nf b _ q (fun o z => by unfold fzO at z; cases z)
    rw [ov_out hc]; exact u.tups b xs (by rw [ov_out hc]; exact q)
  · by_cases hc : b ∈ cs
    · rw [ov_in hc]; exact q
    · rw [ov_out hc]; exact u.frzs b o x (by rw [ov_out hc]; exact q)
  · have hc := nf b _ q (fun o z => by unfold fzO at z; cases z)
    rw [ov_out hc]; exact u.tbls b ps (by rw [ov_out hc]; exact q)
theorem un_none (u : Un fs [] (Ov cs noH H') H3 h h') (hH : ∀ b ∈ cs, ∃ o, H' b = some (fzO b o) ∧ h.get? b = some o) : ∀ b ∈ cs, H3 b = none := fun b hb => by
  obtain ⟨o, _, q⟩ := hH b hb
  exact u.free b o q (by rw [ov_in hb]) (by simp)
theorem ce_thaw {outer : List Env} {s s' : Shared} {Q2 Q : VK} {u : Value} (hH : ∀ b ∈ cs, H b = none) (hG : ∀ b ∈ cs, ∃ o, G b = some (fzO b o) ∧ s.heap.get? b = some o) (hq : ∀ v H', Q2 v H' → Q v (Ov cs noH H'))
    (c : CE outer P w (Ov cs G H) s Q2 u s') : CE outer P w H s Q u s' := by
  obtain ⟨v, H', os, ab, un, hok, rv, q⟩ := c
  refine ⟨v, Ov cs noH H', os, ab, un_thaw un hH hG hok, hok_ov hok (fun b hb => ?_) (fun b hb => .inl rfl), rv, hq v H' q⟩
  obtain ⟨o, g, _⟩ := hG b hb
  exact .inr ⟨o, un.frzs b o _ (by rw [ov_in hb]; exact g)⟩
theorem ce_frz {outer : List Env} {s s' : Shared} {Q3 Q : VK} {u : Value} (hH : ∀ b ∈ cs, ∃ o, H' b = some (fzO b o) ∧ s.heap.get? b = some o) (hf : ∀ b ∈ cs, b ∉ frs outer) (hq : ∀ v H3, (∀ b ∈ cs, H3 b = none) → Q3 v H3 → Q v (Ov cs H' H3))
    (c : CE outer P w (Ov cs noH H') s Q3 u s') : CE outer P w H' s Q u s' := by
  obtain ⟨v, H3, os, ab, un, hok, rv, q⟩ := c
  have n3 := un_none un hH
  refine ⟨v, Ov cs H' H3, os, ab, un_frz un hH, hok_ov hok (fun b hb => .inl (n3 b hb)) (fun b hb => ?_), rv, hq v H3 n3 q⟩
  obtain ⟨o, e, q⟩ := hH b hb
  exact .inr ⟨o, e, un.keep b o q (by rw [ov_in hb]) (hf b hb) (by simp)⟩
variable [TabCtx] {V V' V3 : Hp}
theorem tabs_out {T : List (Addr × Str)} (t : Tabs T H') (hn : ∀ b ∈ cs, H' b = none ∨ ∃ o, H' b = some (fzO b o)) : Tabs T (Ov cs G H') := fun p hp => by
  obtain ⟨ps, h1, h2, h3⟩ := t p hp
  have nf : ∀ b x, H' b = some x → (∀ o, x ≠ fzO b o) → b ∉ cs := fun b x e n hb => by
    rcases hn b hb with z | ⟨o, z⟩
    · rw [z] at e; cases e
    · rw [z] at e; cases e; exact n o rfl
  refine ⟨ps, by rw [ov_out (nf _ _ h1 (fun o z => by unfold fzO at z; cases z))]; exact h1, h2, fun pos cv hc => ?_⟩
  obtain ⟨c, e1, e2⟩ := h3 pos cv hc
  exact ⟨c, e1, by rw [ov_out (nf _ _ e2 (fun o z => by unfold fzO CodeO at z; cases z))]; exact e2⟩
theorem ext_thaw (x : Ext (Ov cs G H) V H' V') (sv : Same V H) (hH : ∀ b ∈ cs, H b = none) (hG : ∀ b ∈ cs, ∃ o, G b = some (fzO b o)) : Ext H V (Ov cs noH H') V' := by
  have nn : ∀ b, H b ≠ none → b ∉ cs := fun b e hb => e (hH b hb)
  have gn : ∀ b ∈ cs, Ov cs G H b ≠ none := fun b hb => by rw [ov_in hb]; obtain ⟨o, g⟩ := hG b hb; rw [g]; exact fun z => nomatch z
  refine ⟨fun b o e nt => ?_, x.v, fun b o e => ?_, fun b e1 e2 => ?_, fun b e => ?_, fun t => ?_⟩
  · have hc := nn b (by rw [e]; exact fun z => nomatch z)
    rw [ov_out hc]; exact x.h b o (by rw [ov_out hc]; exact e) nt
  · have hc : b ∉ cs := fun hb => by
      have : V' b = none := x.f b (sv.free (hH b hb)) (gn b hb)
      rw [this] at e; cases e
    rw [ov_out hc]; exact x.s b o e
  · exact x.f b e1 (by rw [ov_out (nn b e2)]; exact e2)
  · rw [ov_out (nn b e)]; exact x.th b (by rw [ov_out (nn b e)]; exact e)
  · refine tabs_out (x.t (tabs_out t fun b hb => .inl (hH b hb))) fun b hb => ?_
    obtain ⟨o, g⟩ := hG b hb
    exact .inr ⟨o, x.h b _ (by rw [ov_in hb]; exact g) (fun ps z => by unfold fzO at z; cases z)⟩
theorem ext_frz (x : Ext (Ov cs noH H') V' H3 V3) (hH : ∀ b ∈ cs, ∃ o, H' b = some (fzO b o)) (h3 : ∀ b ∈ cs, H3 b = none) : Ext H' V' (Ov cs H' H3) V3 := by
  refine ⟨fun b o e nt => ?_, x.v, fun b o e => ?_, fun b e1 e2 => ?_, fun b e => ?_, fun t => ?_⟩
  · by_cases hc : b ∈ cs
    · rw [ov_in hc]; exact e
    · rw [ov_out hc]; exact x.h b o (by rw [ov_out hc]; exact e) nt
  · have hc : b ∉ cs := fun hb => by
      have := x.s b o e
      rw [h3 b hb] at this; cases this
    rw [ov_out hc]; exact x.s b o e
  · by_cases hc : b ∈ cs
    · exact x.s.free (h3 b hc)
    · exact x.f b e1 (by rw [ov_out hc]; exact e2)
  · by_cases hc : b ∈ cs
    · rw [ov_in hc]; exact e
    · rw [ov_out hc]; exact x.th b (by rw [ov_out hc]; exact e)
  · exact tabs_out (x.t (tabs_out t fun b hb => .inr (hH b hb))) fun b hb => .inl (h3 b hb)
end
structure LamP (sc scope : Scope) (ps : List Str) : Prop where
  kind : scope.kind = .function
  co : scope.isCoroutine = false
  gen : scope.isGenerator = false
  own : ∀ y ∈ scope.names, y.2 ≠ .cell
  loc : ∀ y ∈ scope.names, y.2 = .local → y.1 ∈ ps
  free : ∀ y ∈ scope.names, y.2 = .free → sc.names.lookup y.1 = some .cell ∨ sc.names.lookup y.1 = some .free
  par : ∀ y ∈ ps, scope.names.lookup y = some .local
  nd : ps.Nodup
def lamPB (sc scope : Scope) (ps : List Str) : Bool :=
  decide (scope.kind = .function) && !scope.isCoroutine && !scope.isGenerator && (scope.names.all fun y => !decide (y.2 = .cell) && (!decide (y.2 = .local) || decide (y.1 ∈ ps)) && (!decide (y.2 = .free) || decide (sc.names.lookup y.1 = some .cell) || decide (sc.names.lookup y.1 = some .free))) && (ps.all fun y => decide (scope.names.lookup y = some .local)) && decide ps.Nodup
theorem lamP_by {sc scope : Scope} {ps : List Str} (h : lamPB sc scope ps = true) : LamP sc scope ps := by
  unfold lamPB at h
  simp only [Bool.and_eq_true, Bool.or_eq_true, Bool.not_eq_true', decide_eq_true_eq, decide_eq_false_iff_not, List.all_eq_true] at h
  obtain ⟨⟨⟨⟨⟨h1, h2⟩, h3⟩, h4⟩, h5⟩, h6⟩ := h
  refine ⟨h1, h2, h3, fun y hy => (h4 y hy).1.1, fun y hy e => ?_, fun y hy e => ?_, h5, h6⟩
  · rcases (h4 y hy).1.2 with z | z
    · exact absurd e z
    · exact z
  · rcases (h4 y hy).2 with (z | z) | z
    · exact absurd e z
    · exact .inl z
    · exact .inr z
theorem LamP.has {X : Cx} {scope : Scope} {ps : List Str} (L : LamP X.env.scope scope ps) (ok : X.Ok) : ∀ y ∈ scope.names, y.2 = .free → ∃ c, X.env.cells.lookup y.1 = some c := fun y hy e => by
  rcases L.free y hy e with k | k
  · exact ok.has _ (.inl k)
  · exact ok.has _ (.inr k)
theorem setV_get : ∀ {is : List Nat} {vs : List L2.V} {σ : L2.St} {i : Nat} {v : L2.V}, is.length = vs.length → (setV is vs σ)[i]? = some (some v) → (∃ j : Nat, is[j]? = some i ∧ vs[j]? = some v) ∨ (i ∉ is ∧ σ[i]? = some (some v))
  | [], [], _, _, _, _, h => .inr ⟨by simp, h⟩
  | i0 :: is, v0 :: vs, σ, i, v, hl, h => by
    rcases setV_get (is := is) (vs := vs) (σ := σ.set i0 (some v0)) (by simpa using hl) h with ⟨j, h1, h2⟩ | ⟨h1, h2⟩
    · exact .inl ⟨j + 1, by simpa using h1, by simpa using h2⟩
    · by_cases e : i0 = i
      · subst e
        by_cases hi : i0 < σ.length
        · rw [List.getElem?_set_self hi] at h2
          cases h2
          exact .inl ⟨0, rfl, rfl⟩
        · rw [List.getElem?_eq_none (by simpa using hi)] at h2; cases h2
      · rw [List.getElem?_set_ne e] at h2
        exact .inr ⟨by simp only [List.mem_cons, not_or]; exact ⟨fun z => e z.symm, h1⟩, h2⟩
theorem setV_len : ∀ {is : List Nat} {vs : List L2.V} {σ : L2.St}, (setV is vs σ).length = σ.length
  | [], _, _ => by simp [setV]
  | _ :: _, [], _ => by simp [setV]
  | i :: is, v :: vs, σ => by rw [setV, setV_len, List.length_set]
theorem look_nd {u : Value} {y : Str} : ∀ {l : List (Str × Value)}, (l.map (·.1)).Nodup → (y, u) ∈ l → l.lookup y = some u
  | [], _, h => by simp at h
  | (z, v) :: l, hn, h => by
    simp only [List.map_cons, List.nodup_cons] at hn
    rcases List.mem_cons.mp h with e | e
    · cases e; simp [List.lookup]
    · have ne : (y == z) = false := by
        apply beq_eq_false_iff_ne.mpr
        intro q; subst q
        exact hn.1 (List.mem_map.mpr ⟨_, e, rfl⟩)
      rw [List.lookup, ne]
      exact look_nd hn.2 e
theorem zip_look {ps : List Str} {us : List Value} (nd : ps.Nodup) (hl : ps.length = us.length) {j : Nat} {y : Str} {u : Value} (h1 : ps[j]? = some y) (h2 : us[j]? = some u) : (ps.zip us).reverse.lookup y = some u := by
  refine look_nd ?_ (List.mem_reverse.mpr ?_)
  · rw [List.map_reverse]
    have e : (ps.zip us).map (·.1) = ps := List.map_fst_zip (by omega)
    rw [e]
    exact List.pairwise_reverse.mpr (nd.imp fun h => Ne.symm h)
  · exact List.mem_of_getElem? (i := j) (by rw [List.getElem?_zip_eq_some]; exact ⟨h1, h2⟩)
section
variable {X : Cx} {pins : List (Addr × Obj)} {σ : L2.St} {H HZ : Hp} {s s1 : Shared}
theorem lam_startP {A : Around} {outer : List Env} {E : XK} {scope : Scope} {f c' : Addr} {h₁ : Heap} {tk : Nat} {ps : List Str} {is : List Nat} {us : List Value} {vs : List L2.V} (I : Inv X pins σ H s) (L : LamP X.env.scope scope ps) (e0 : Env0 X.prog X.w X.K X.mg X.base A outer s1 HZ) (hd : A.handled = none)
    (hns : h₁.Ns s1.heap.objs.size fun y => (ps.zip us).reverse.lookup y) (kp : ∀ b o, s1.heap.get? b = some o → h₁.get? b = some o)
    (hce : ∀ y c, (cloFrom X.env.cells scope.names []).lookup y = some c → HZ c = none ∧ ∀ v, s.heap.IsCell c v → h₁.IsCell c v)
    (hN : is.map (fun i => X.N[i]?) = ps.map some) (hND : X.N.Nodup) (r : Vals vs us) (hlen : vs.length = ps.length) :
    Inv (lamCx X A outer s1 HZ E scope f c') [] (setV is vs σ) HZ { s1 with heap := h₁, toks := tk } := by
  have hfree := L.has I.ok
  have hil : is.length = ps.length := by have := congrArg List.length hN; simpa using this
  have cm : ∀ {y c}, (cloFrom X.env.cells scope.names []).lookup y = some c → X.env.cells.lookup y = some c := fun {y c} e => by
    rcases cloFrom_mem (PySem.mem_of_lookup e) with hm | ⟨h1, h2⟩
    · cases hm
    · obtain ⟨c1, hc⟩ := hfree _ h1 rfl
      have hc : X.env.cells.lookup y = some c1 := hc
      have e2 : c = c1 := by
        rw [h2, hc] <;> rfl
      rw [e2]
      exact hc
  have look : ∀ {y}, scope.names.lookup y = some .free → ∃ c, (cloFrom X.env.cells scope.names []).lookup y = some c := fun {y} hl => by
    have hy : (y, NameKind.free) ∈ scope.names := PySem.mem_of_lookup hl
    exact mem_lookup (cloFrom_has (cells := X.env.cells) (acc := []) hy)
  have noA : ∀ b : Addr, b ∉ (lamCx X A outer s1 HZ E scope f c').ex := fun b z => absurd (show b ∈ ([] : List Addr) from z) (by simp)
  have pN : ∀ {j : Nat} {i : Nat}, is[j]? = some i → ∃ y, ps[j]? = some y ∧ X.N[i]? = some y := fun {j i} hj => by
    have e := congrArg (fun l => l[j]?) hN
    simp only [List.getElem?_map, hj, Option.map_some] at e
    cases q : ps[j]? with
    | none => rw [q] at e; cases e
    | some y => rw [q] at e; exact ⟨y, rfl, Option.some.inj e⟩
  refine ⟨⟨e0.mod, L.kind, rfl, rfl, Nat.le_refl _, fun y z c e1 e2 => I.ok.inj y z c (cm e1) (cm e2), fun y hy => ?_, fun y c z _ => ?_, fun _ => hd, Around.frames_deeper e0.frames, .inr ⟨rfl, rfl⟩, fun b z => absurd z (noA b), e0.bs, e0.bsz, fun b _ _ => noA b,
      fun b z => absurd z (noA b), e0.funs, e0.frf⟩,
    rfl, e0.bare, Un.kept kp, ⟨_, hns, fun i y v e1 e2 e3 => ?_⟩, fun y c e => ?_, e0.hok.fresh (Nat.le_refl _), fun y c e => (hce y c e).1, fun q hq => absurd (show q ∈ ([] : List (Addr × Obj)) ++ [] from hq) (by simp), e0.hok.kept kp, by rw [setV_len]; exact I.len⟩
  · have hy : scope.names.lookup y = some .cell ∨ scope.names.lookup y = some .free := hy
    rcases hy with hy | hy
    · exact absurd rfl (L.own _ (PySem.mem_of_lookup hy))
    · exact look hy
  · have z : false = true := z
    cases z
  · have e3 : Vis scope y := e3
    have e1 : X.N[i]? = some y := e1
    rcases setV_get (by omega) e2 with ⟨j, h1, h2⟩ | ⟨h1, h2⟩
    · obtain ⟨y', p1, p2⟩ := pN h1
      rw [e1] at p2; cases p2
      obtain ⟨u, hu, ru⟩ := r.get h2
      refine ⟨u, ru, .inl ⟨L.par y (List.mem_of_getElem? p1), zip_look L.nd (by rw [← hlen]; exact r.length) p1 hu⟩⟩
    · rcases e3 with k | k | k
      · exfalso
        have hy := L.loc _ (PySem.mem_of_lookup k) rfl
        obtain ⟨j, hj⟩ := List.mem_iff_getElem?.mp hy
        have hj' : ∃ i', is[j]? = some i' := by
          have : j < ps.length := by
            rcases Nat.lt_or_ge j ps.length with q | q
            · exact q
            · rw [List.getElem?_eq_none q] at hj; cases hj
          exact ⟨_, List.getElem?_eq_getElem (by omega)⟩
        obtain ⟨i', hi'⟩ := hj'
        obtain ⟨y', p1, p2⟩ := pN hi'
        rw [hj] at p1; cases p1
        have : i = i' := by
          have b1 : i < X.N.length := by
            rcases Nat.lt_or_ge i X.N.length with q | q
            · exact q
            · rw [List.getElem?_eq_none q] at e1; cases e1
          exact (List.getElem?_inj b1 hND).mp (by rw [e1]; exact p2.symm)
        subst this
        exact h1 (List.mem_of_getElem? hi')
      · exact absurd rfl (L.own _ (PySem.mem_of_lookup k))
      · obtain ⟨m, hn, hl⟩ := I.loc
        have hvis : Vis X.env.scope y := (L.free _ (PySem.mem_of_lookup k) rfl).elim (fun k => .inr (.inl k)) (fun k => .inr (.inr k))
        obtain ⟨w', r', q⟩ := hl i y v e1 h2 hvis
        obtain ⟨c2, h2⟩ := look k
        refine ⟨w', r', .inr ⟨.inr k, c2, h2, ?_⟩⟩
        have c1 := cm h2
        rcases q with ⟨k', _⟩ | ⟨_, c3, e', z⟩
        · have k' : X.env.scope.names.lookup y = some .local := k'
          rcases L.free _ (PySem.mem_of_lookup k) rfl with k2 | k2 <;> rw [show X.env.scope.names.lookup y = _ from k2] at k' <;> cases k'
        · rw [c1] at e'
          cases e'
          exact (hce y _ h2).2 _ z
  · obtain ⟨w', z⟩ := I.cell y c (cm e)
    exact ⟨w', (hce y c e).2 _ z⟩
/-- a new thing comes to be tracked -/
theorem inv_track {a : Addr} {o : HO} (I : Inv X pins σ H s) (hn : H a = none) (h0 : X.s_0.heap.objs.size ≤ a) (hl : a ≠ X.env.locals) (hc : ∀ x c, X.env.cells.lookup x = some c → c ≠ a) (hp : ∀ p ∈ X.pn ++ pins, p.1 ≠ a) (ho : ObjOk X.prog X.w (upd H a o) s.heap a o) : Inv X pins σ (upd H a o) s := by
  have ne : ∀ b u, H b = some u → b ≠ a := fun b u e => ne_of_none e hn
  refine ⟨I.ok, I.os, I.bare, ⟨I.base.keep, I.base.slot, fun b ob q n hx => ?_, I.base.there, fun b xs q => ?_, fun b ob u q => ?_, fun b ps q => ?_⟩, I.loc, I.cell, ?_, fun y c e => ?_, fun p hq => ?_, fun b u e => ?_, I.len⟩
  · rw [upd_ne (Nat.ne_of_lt (Nat.lt_of_lt_of_le (Heap.lt_size q) h0))]; exact I.base.free b ob q n hx
  · have := I.base.tups b xs q
    rw [upd_ne (ne _ _ this)]; exact this
  · have := I.base.frzs b ob u q
    rw [upd_ne (ne _ _ this)]; exact this
  · obtain ⟨m, this⟩ := I.base.tbls b ps q
    exact ⟨m, by rw [upd_ne (ne _ _ this)]; exact this⟩
  · rw [upd_ne (Ne.symm hl)]; exact I.free
  · rw [upd_ne (hc y c e)]; exact I.freeC y c e
  · obtain ⟨q1, q2, q3⟩ := I.pin p hq
    exact ⟨q1, by rw [upd_ne (hp p hq)]; exact q2, q3⟩
  · by_cases hb : b = a
    · subst hb; rw [upd_same] at e; cases e; exact ho
    · rw [upd_ne hb] at e
      exact (I.hok b u e).stay (fun c v _ q => q) (fun c q => by rw [upd_ne (ne _ _ q)]; exact q) fun c xs q => by rw [upd_ne (ne _ _ q)]; exact q
end
end HD
set_option Elab.async false
set_option linter.all false
set_option maxRecDepth 100000
set_option maxHeartbeats 2000000
namespace HD
open PySem PySem.Spec PyProof.Rows L2 L2H HotX LamX DL
variable [TabCtx]
/-- what a lambda is worth: its parameters' slots, its body, the slots when it was made -/
def lamF (is : List Nat) (fb : M PyData) (ρ : Rho) (ds : List PyData) : Option PyData := if ds.length = is.length then (match fb (setL is (ds.map .sh) (forget ρ)) with
  | .ok (d, _) => some d
  | _ => none) else none
theorem env_forget {K : KW} {F : Fr} {H V Hs V' : Hp} {σ : L2.St} {ρ : Rho} {E : XK} (e : EnvR K F H V σ ρ) (v : Same V V') (s : Same V' Hs) (t : TabV Hs V') : EnvR K (mkF Hs V' E) Hs V' σ (forget ρ) := by
  have at_ : ∀ {i : Nat} {t : Sl}, (HD.forget ρ)[i]? = some t → (∃ d, ρ[i]? = some (.sh d) ∧ t = .sh d) ∨ t = .no := fun {i t} h => by
    unfold HD.forget at h
    rw [List.getElem?_map] at h
    obtain ⟨u, h1, h2⟩ := Option.map_eq_some_iff.mp h
    cases u with
    | no => exact .inr h2.symm
    | sh d => exact .inl ⟨d, h1, h2.symm⟩
    | ow d => exact .inr h2.symm
  refine ⟨by rw [e.len]; simp [HD.forget], Ext.refl s, fun i d h => ?_, fun i d h => ?_, fun i j a d d' h => ?_, (fun a h => by cases h), t⟩
  · rcases at_ h with ⟨d', h1, h2⟩ | z
    · cases h2
      obtain ⟨u, q1, q2⟩ := e.sh i d h1
      exact ⟨u, q1, q2.mono v⟩
    · cases z
  · rcases at_ h with ⟨d', h1, h2⟩ | z
    · cases h2
    · cases z
  · rcases at_ h with ⟨d', h1, h2⟩ | z
    · cases h2
    · cases z
theorem repS_sh {K : KW} {H0 V' H' : Hp} : ∀ {vs : List L2.V} {ds : List PyData}, RepL K V' vs ds → RepS K H0 V' H' vs (ds.map .sh) []
  | _, _, .nil => .nil
  | _, _, .cons r t => .sh r (repS_sh t)
abbrev csOf (X : Cx) (scope : Scope) : List Addr := (cloFrom X.env.cells scope.names []).map (·.2)
abbrev fzG (h : Heap) : Hp := fun b => (h.get? b).map (fzO b)
section
variable {X : Cx} {F : Fr} {pins : List (Addr × Obj)} {σ : L2.St} {H1 V1 : Hp} {s1 : Shared} {ρ1 : Rho}
theorem clo_cell {scope : Scope} {ps : List Str} (ok : X.Ok) (L : LamP X.env.scope scope ps) {y : Str} {c : Addr} (h : (y, c) ∈ cloFrom X.env.cells scope.names []) : X.env.cells.lookup y = some c := by
  rcases cloFrom_mem h with hm | ⟨h1, h2⟩
  · cases hm
  · obtain ⟨c1, hc⟩ := L.has ok _ h1 rfl
    have hc : X.env.cells.lookup y = some c1 := hc
    have e2 : c = c1 := by
      rw [h2, hc] <;> rfl
    rw [e2]
    exact hc
theorem cs_cell {scope : Scope} {ps : List Str} (I : Inv X pins σ H1 s1) (L : LamP X.env.scope scope ps) {b : Addr} (hb : b ∈ csOf X scope) : ∃ y, X.env.cells.lookup y = some b := by
  obtain ⟨⟨y, c⟩, h1, rfl⟩ := List.mem_map.mp hb
  exact ⟨y, clo_cell I.ok L h1⟩
theorem cs_none {scope : Scope} {ps : List Str} (I : Inv X pins σ H1 s1) (L : LamP X.env.scope scope ps) : ∀ b ∈ csOf X scope, H1 b = none := fun b hb => by
  obtain ⟨y, h⟩ := cs_cell I L hb
  exact I.freeC y b h
theorem cs_fz {scope : Scope} {ps : List Str} (I : Inv X pins σ H1 s1) (L : LamP X.env.scope scope ps) : ∀ b ∈ csOf X scope, ∃ o, fzG s1.heap b = some (fzO b o) ∧ s1.heap.get? b = some o := fun b hb => by
  obtain ⟨y, h⟩ := cs_cell I L hb
  obtain ⟨v, o, ho, _⟩ := I.cell y b h
  exact ⟨o, by unfold fzG; rw [ho]; rfl, ho⟩
theorem cs_new {scope : Scope} {ps : List Str} (I : Inv X pins σ H1 s1) (L : LamP X.env.scope scope ps) (hfn : ∀ y, X.fn y = true) : ∀ b ∈ csOf X scope, X.s_0.heap.objs.size ≤ b ∧ b ∉ frs X.stack := fun b hb => by
  obtain ⟨y, h⟩ := cs_cell I L hb
  have h0 := I.ok.cab y b (hfn y) h
  refine ⟨h0, fun z => ?_⟩
  rcases List.mem_cons.mp (I.stkSub _ z) with e | e
  · exact I.cne y b h e
  · obtain ⟨_, o, ho, _⟩ := I.ok.funs.mem e
    exact Nat.lt_irrefl _ (Nat.lt_of_lt_of_le (Heap.lt_size ho) h0)
/-- a lambda is what can be called, while its cells are known -/
theorem cb_lam {params : Arguments} {body : Expr} {scope : Scope} {ps : List Str} {is : List Nat} {fb : M PyData} {k : Nat} {f c' : Addr} {pm ctv : Value} (I1 : Inv X pins σ H1 s1) (E1 : EnvR X.kw F H1 V1 σ ρ1) (L : LamP X.env.scope scope ps)
    (hf : H1 f = some (fzO f (PySem.W.kla_obj "<lambda>" (X.env.qual ++ "<lambda>") params body scope (cloFrom X.env.cells scope.names []) pm c' ctv))) (hc : H1 c' = some (CodeO c' (X.env.qual ++ "<lambda>")))
    (hbind : ∀ (q : Str) (cl : List (Str × Addr)) (pm cv ctv : Value) (us : List Value), us.length = ps.length → bindArgs (PySem.W.kla_fn "<lambda>" q params body scope cl pm cv ctv) ⟨us, []⟩ = pure (ps.zip us))
    (hN : is.map (fun i => X.N[i]?) = ps.map some) (hND : X.N.Nodup)
    (hb : ∀ (A : Around) (outer : List Env) (s : Shared) (H : Hp) (f c' : Addr) (H' V : Hp), Room k (A.deeper (lamEnv X scope s.heap.objs.size f c')) → PM (lamN X A outer s H (fun _ _ _ => False) scope f c') (mkF H' V (fun _ _ _ => False)) body fb) :
    CbAt X.prog X.w X.K X.mg X.base (k + 1) (Ov (csOf X scope) (fzG s1.heap) H1) V1 f (lamF is fb ρ1) := by
  have cn := cs_none I1 L
  have cz := cs_fz I1 L
  have out : ∀ b u, H1 b = some u → b ∉ csOf X scope := fun b u e hb => by rw [cn b hb] at e; cases e
  have hil : is.length = ps.length := by have := congrArg List.length hN; simpa using this
  have nt : ∀ {b : Addr} {o : Obj}, nT (fzO b o) := fun {b o} ps z => by unfold fzO at z; cases z
  have fAt : ∀ {H' V' : Hp}, Ext (Ov (csOf X scope) (fzG s1.heap) H1) V1 H' V' → H' f = some (fzO f (PySem.W.kla_obj "<lambda>" (X.env.qual ++ "<lambda>") params body scope (cloFrom X.env.cells scope.names []) pm c' ctv)) := fun {H' V'} ex =>
    ex.h f _ (by rw [ov_out (out _ _ hf)]; exact hf) nt
  refine ⟨fun H' V' ex ht A outer s us vs ds d Q hr e0 r rd ed hq => ?_, fun H' V' ex h hok kin => PySem.W.keeps_F h ⟨_, _, _, _, fzO_get hok (fAt ex)⟩⟩
  unfold lamF at ed
  split at ed
  · rename_i hl
    cases efb : fb (setL is (ds.map .sh) (HD.forget ρ1)) with
    | exc c => rw [efb] at ed; cases ed
    | bad => rw [efb] at ed; cases ed
    | ok pr =>
      obtain ⟨d', ρ'⟩ := pr
      rw [efb] at ed
      cases ed
      have hlen : vs.length = ps.length := by rw [rd.length, hl, hil]
      have of1 := fzO_get e0.hok (fAt ex)
      have hc' : H' c' = some (CodeO c' (X.env.qual ++ "<lambda>")) := ex.h c' _ (by rw [ov_out (out _ _ hc)]; exact hc) (fun ps => codeO_ne ps)
      obtain ⟨⟨oc, vs', t, hoc, hdc, hvc⟩, _, _⟩ := e0.hok c' _ hc'
      have cH : ∀ b ∈ csOf X scope, ∃ o, H' b = some (fzO b o) ∧ s.heap.get? b = some o ∧ s1.heap.get? b = some o := fun b hb => by
        obtain ⟨o, g, q⟩ := cz b hb
        have h1 : H' b = some (fzO b o) := ex.h b _ (by rw [ov_in hb]; exact g) nt
        exact ⟨o, h1, fzO_get e0.hok h1, q⟩
      have cV : ∀ b ∈ csOf X scope, V' b = none := fun b hb => by
        obtain ⟨o, g, q⟩ := cz b hb
        exact ex.f b (E1.sub.free (cn b hb)) (by rw [ov_in hb, g]; exact fun z => nomatch z)
      have okS : HOk X.prog X.w (Ov (csOf X scope) noH H') s.heap := hok_ov e0.hok (fun b hb => by obtain ⟨o, h1, _⟩ := cH b hb; exact .inr ⟨o, h1⟩) (fun b hb => .inl rfl)
      have nS : ∀ b, H' b = none → Ov (csOf X scope) noH H' b = none := fun b e => by
        by_cases hb : b ∈ csOf X scope
        · rw [ov_in hb]
        · rw [ov_out hb]; exact e
      have e0s : Env0 X.prog X.w X.K X.mg X.base A outer s (Ov (csOf X scope) noH H') := ⟨e0.frames, e0.mod, fun b o e => ⟨(e0.bs b o e).1, nS b (e0.bs b o e).2⟩, e0.bsz, e0.funs, fun b hb => nS b (e0.frf b hb), okS, e0.bare⟩
      have sV : Same V' (Ov (csOf X scope) noH H') := fun b o e => by
        have hb : b ∉ csOf X scope := fun hb => by rw [cV b hb] at e; cases e
        rw [ov_out hb]; exact ex.s b o e
      have tV : TabV (Ov (csOf X scope) noH H') V' := ⟨tabs_out ht.1 fun b hb => by obtain ⟨o, h1, _⟩ := cH b hb; exact .inr ⟨o, h1⟩, ht.2⟩
      have nol : s.heap.NoLimit := e0.mod.nolimit.keeps fun b o e => (e0.bs b o e).1
      have rc : codeAny (model X.prog X.w) A (.call (.ref f) ⟨us, []⟩) (CR (L2N.CX X.prog X.w) outer X.prog X.w (Ov (csOf X scope) noH H') s (fun v H3 => ∃ V3, Ext (Ov (csOf X scope) noH H') V' H3 V3 ∧ Rep X.kw V3 v d) (fun _ _ _ => False)) s := by
        refine PySem.W.kla_callFunE hr.depth of1 rfl L.co L.gen rfl ⟨c', oc, vs', t, rfl, hoc, hdc, hvc⟩ ?_
        rw [hbind _ _ _ _ _ us (by rw [← r.length]; exact hlen)]
        refine wpAny_pure (wpAny_newFunctionEnv (fun y hy => L.own y hy) (fun y hy => L.par y.1 (List.of_mem_zip hy).1) (fun h₁ hns hsb => ⟨nol.fresh _ hsb, ?_⟩) L.kind)
        show codeAny _ _ (.expr body (lamEnv X scope s.heap.objs.size f c')) _ _
        have kp : ∀ b o, s.heap.get? b = some o → h₁.get? b = some o := fun b o e => hsb.extBut b o (Nat.ne_of_lt (Heap.lt_size e)) (Heap.get?_push_of_some _ e)
        have J0 : Inv (lamCx X A outer s (Ov (csOf X scope) noH H') (fun _ _ _ => False) scope f c') [] (setV is vs σ) (Ov (csOf X scope) noH H') { s with heap := h₁, toks := s.toks + (ps.zip us).length } :=
          lam_startP I1 L e0s hr.hd hns kp (fun y c e => by
            have hb : c ∈ csOf X scope := List.mem_map.mpr ⟨_, PySem.mem_of_lookup e, rfl⟩
            refine ⟨ov_in hb, fun v ⟨o, ho, hd⟩ => ?_⟩
            obtain ⟨o', _, q1, q2⟩ := cH c hb
            rw [ho] at q2; cases q2
            exact ⟨o, kp _ _ q1, hd⟩) hN hND r hlen
        have J : Inv (lamN X A outer s (Ov (csOf X scope) noH H') (fun _ _ _ => False) scope f c') [] (setV is vs σ) (Ov (csOf X scope) noH H') { s with heap := h₁, toks := s.toks + (ps.zip us).length } := J0.toTry _
        have g : tM X.kw (mkF (Ov (csOf X scope) noH H') V' (fun _ _ _ => False)) fb (setV is vs σ) (Ov (csOf X scope) noH H') (fun v H3 => ∃ V3, Ext (Ov (csOf X scope) noH H') V' H3 V3 ∧ Rep X.kw V3 v d) := by
          refine ⟨V', setL is (ds.map .sh) (HD.forget ρ1), EnvR.setS (H0 := H') (fun i _ => .inr rfl) (env_forget E1 ex.v sV tV) (repS_sh rd) (fun a h => nomatch h), ?_⟩
          rw [efb]
          exact fun b H2 V2 st r2 => ⟨V2, st.env.ext, r2⟩
        refine PySem.W.kla_codeExpr (wpAny_mono ((hb A outer s (Ov (csOf X scope) noH H') f c' _ V' (hr.deeper _)).run [] _ _ _ _ J g) (fun v s' hq => ?_) fun e s' hq => hq)
        obtain ⟨w', H3, J', rv, q⟩ := hq
        exact ⟨w', H3, J'.os, J'.bare, J'.base, J'.hok, rv, q⟩
      refine codeAny_mono rc fun r s' h => ?_
      cases r with
      | error e =>
        obtain ⟨_, _, _, _, _, _, _, _, _, _, _, _, z⟩ := (show L2N.CX X.prog X.w outer _ s (fun _ _ _ => False) e s' from h)
        exact z.elim
      | ok fl =>
        cases fl with
        | ret u =>
          refine ce_frz (H' := H') (cs := csOf X scope) (fun b hb => by obtain ⟨o, h1, h2, _⟩ := cH b hb; exact ⟨o, h1, h2⟩) (fun b hb z => ?_) (fun v H3 n3 ⟨V3, x3, r3⟩ => ?_) h
          · obtain ⟨o, h1, _⟩ := cH b hb
            have := e0.frf b z
            rw [h1] at this; cases this
          · exact hq v _ V3 (ext_frz x3 (fun b hb => by obtain ⟨o, h1, _⟩ := cH b hb; exact ⟨o, h1⟩) n3) r3
        | next => exact False.elim h
        | brk => exact False.elim h
        | cont => exact False.elim h
  · cases ed
end
end HD
set_option Elab.async false
set_option linter.all false
set_option maxRecDepth 100000
set_option maxHeartbeats 2000000
namespace DL
open PySem PySem.Spec PyProof.Rows L2
variable [TabCtx]
def gMinL : List PyData → Option PyData
  | [.list ds] => (intsD ds).bind fun bs => bs.min?.map .int
  | _ => none
theorem cd_minL {K : KW} : CallD K (rMin K) gMinL := by
  intro xs ds z H V Q s r e q
  cases r with
  | nil => cases e
  | cons r1 r2 =>
    cases r2 with
    | cons _ _ => cases r1 <;> cases e
    | nil =>
      cases r1 with
      | @lst a ys es ha ra =>
        have e : ((intsD es).bind fun bs => bs.min?.map PyData.int) = some z := e
        obtain ⟨bs, hb, e⟩ := Option.bind_eq_some_iff.mp e
        obtain ⟨m, hm, rfl⟩ := Option.map_eq_some_iff.mp e
        have hy := ints_rep ra hb
        subst hy
        obtain ⟨h1, h2⟩ := List.min?_eq_some_iff.mp hm
        refine ⟨a, bs, rfl, .inl (.inl (s _ _ ha)), List.length_pos_of_mem h1, fun m' q1 q2 => ?_⟩
        have : m' = m := Int.le_antisymm (q2 m h1) (h2 m' q1)
        rw [this]
        exact q _ _ _ (Ext.refl s) (.int _)
      | _ => cases e
end DL
set_option Elab.async false
set_option linter.all false
set_option maxRecDepth 100000
set_option maxHeartbeats 4000000
namespace PySem
open Sem (wp)
namespace F
theorem zip_no_len : typeLookup (.type "zip") "__len__" = pure none := by rw [typeLookup_type, builtinLookup_eq_fast]; kernel_rfl
theorem zip_no_hint : typeLookup (.type "zip") "__length_hint__" = pure none := by rw [typeLookup_type, builtinLookup_eq_fast]; kernel_rfl
end F
section
variable {prog : Program} {w : World} {A : Around} {E : Value → Shared → Prop} {s : Shared} {z TI TO i1 i2 : Addr} {fp1 fp2 : List Addr} {n1 n2 i : Nat} {P1 P2 : Nat → Value → Prop} {St1 St2 : Nat → Heap → Prop} {a1 a2 : Value}
theorem zipD2_item_held {T : Addr} {f : Bool} {oT : Obj} {Q : Value → Shared → Prop} (S : ZipSep2 z TI TO i1 i2 fp1 fp2) (D1 : Draws prog w A i1 fp1 n1 P1 St1) (D2 : Draws prog w A i2 fp2 n2 P2 St2)
    (hz : IsZipHeld s.heap z TI TO T f) (hT : s.heap.get? T = some oT) (hTI : IsTupOf2 s.heap TI (.ref i1) (.ref i2)) (st1 : St1 i s.heap) (st2 : St2 i s.heap) (hlt1 : i < n1) (hlt2 : i < n2)
    (hQ : ∀ x1 x2 h' tk, P1 i x1 → P2 i x2 → IsZipHeld h' z TI TO T true → St1 (i + 1) h' → St2 (i + 1) h' → IsTupOf2 h' s.heap.objs.size x1 x2 → h'.objs.size = s.heap.objs.size + 1 →
      (∀ c o, c ≠ z → c ≠ i1 → c ≠ i2 → s.heap.get? c = some o → h'.get? c = some o) → Q (.ref s.heap.objs.size) { s with heap := h', toks := tk }) :
    wpAny (model prog w) A (Builtin.«zip.__next__» ⟨[.ref z], []⟩) (fun fin s' => ∃ v, fin = .done (.ret v) ∧ Q v s') E s := by
  obtain ⟨hp, g, d, tk0, os⟩ := s
  show wpAny _ _ (field (.ref z) 2 >>= _) _ _ _
  refine wpAny_bind (wpAny_field hz rfl (x := .bool false) rfl ?_)
  show wpAny _ _ (field (.ref z) 3 >>= _) _ _ _
  refine wpAny_bind (wpAny_field hz rfl (x := .ref TI) rfl ?_)
  refine wpAny_bind (wpAny_seqItems hTI rfl ?_)
  show wpAny _ _ (Builtin.SmallTypes.ownedTupleIsFree (.ref z) >>= _) _ _ _
  refine wpAny_bind (wpAny_tupleHeld_zip hz hT fun h₁ hz₁ hs₁ => ?_)
  replace hs₁ : Heap.SameBut z hp h₁ := hs₁
  simp only [Bool.false_eq_true, if_false]
  refine wpAny_bind ?_
  rw [← Array.forIn_toList]
  simp only [List.forIn_cons, List.forIn_nil]
  refine wpAny_bind (wpAny_bind (wpAny_holding ?_))
  show wpAny _ _ (Builtin.SmallTypes.nextOf (.ref i1) >>= _) _ _ _
  refine wpAny_bind (D1.item i ⟨h₁, g, d, tk0, os⟩ _ _ hlt1 (D1.over st1 hs₁ S.zf1) fun x1 h₂ tk1 hx1 sn1 hs₂ => wpAny_pure ?_)
  replace hs₂ : Heap.SameBut i1 h₁ h₂ := hs₂
  refine wpAny_pure ?_
  refine wpAny_bind (wpAny_bind (wpAny_holding ?_))
  show wpAny _ _ (Builtin.SmallTypes.nextOf (.ref i2) >>= _) _ _ _
  refine wpAny_bind (D2.item i ⟨h₂, g, d, tk1, os⟩ _ _ hlt2 (D2.over (D2.over st2 hs₁ S.zf2) hs₂ S.sep1_2) fun x2 h₃ tk2 hx2 sn2 hs₃ => wpAny_pure ?_)
  replace hs₃ : Heap.SameBut i2 h₂ h₃ := hs₃
  refine wpAny_pure (wpAny_pure ?_)
  show wpAny _ _ (newTuple [x1, x2] >>= _) _ _ _
  refine wpAny_bind (wpAny_newTuple ?_)
  have hsz : h₃.objs.size = hp.objs.size := by rw [hs₃.1, hs₂.1, hs₁.1]
  have hz₃ : IsZipHeld h₃ z TI TO T true := hs₃.extBut _ _ S.zi2 (hs₂.extBut _ _ S.zi1 hz₁)
  have hk : ∀ c o, c ≠ z → c ≠ i1 → c ≠ i2 → hp.get? c = some o → h₃.get? c = some o := fun c o c1 c2 c3 e => hs₃.extBut _ _ c3 (hs₂.extBut _ _ c2 (hs₁.extBut _ _ c1 e))
  refine wpAny_pure ⟨_, rfl, ?_⟩
  show Q (.ref h₃.objs.size) _
  have hp' : IsTupOf2 (h₃.push { cls := .type "tuple", data := .seq #[x1, x2] }) h₃.objs.size x1 x2 := Heap.get?_push_size _ rfl
  have hz4 : (h₃.push { cls := .type "tuple", data := .seq #[x1, x2] }).objs.size = h₃.objs.size + 1 := Heap.size_push ..
  rw [hsz] at hp' hz4 ⊢
  exact hQ x1 x2 _ tk2 hx1 hx2 (Heap.get?_push_of_some _ hz₃) (D1.frame _ _ _ (D1.over sn1 hs₃ S.sep2_1) fun b _ o e => Heap.get?_push_of_some _ e) (D2.frame _ _ _ sn2 fun b _ o e => Heap.get?_push_of_some _ e) hp' hz4 fun c o c1 c2 c3 e => Heap.get?_push_of_some _ (hk c o c1 c2 c3 e)
theorem zipD2_end_held {T : Addr} {f : Bool} {oT : Obj} {Q : Fin → Shared → Prop} (S : ZipSep2 z TI TO i1 i2 fp1 fp2) (D1 : Draws prog w A i1 fp1 n1 P1 St1) (D2 : Draws prog w A i2 fp2 n2 P2 St2)
    (hz : IsZipHeld s.heap z TI TO T f) (hT : s.heap.get? T = some oT) (hTI : IsTupOf2 s.heap TI (.ref i1) (.ref i2)) (st1 : St1 i s.heap) (st2 : St2 i s.heap) (hle1 : i ≤ n1) (hle2 : i ≤ n2) (hend : i = n1 ∨ i = n2)
    (hE : ∀ h' tk e, (∀ c o, c ≠ z → c ≠ i1 → c ≠ i2 → s.heap.get? c = some o → h'.get? c = some o) → (∃ o, h'.get? e = some o ∧ o.cls = .type "StopIteration") → E (.ref e) { s with heap := h', toks := tk }) :
    wpAny (model prog w) A (Builtin.«zip.__next__» ⟨[.ref z], []⟩) Q E s := by
  obtain ⟨hp, g, d, tk0, os⟩ := s
  show wpAny _ _ (field (.ref z) 2 >>= _) _ _ _
  refine wpAny_bind (wpAny_field hz rfl (x := .bool false) rfl ?_)
  show wpAny _ _ (field (.ref z) 3 >>= _) _ _ _
  refine wpAny_bind (wpAny_field hz rfl (x := .ref TI) rfl ?_)
  refine wpAny_bind (wpAny_seqItems hTI rfl ?_)
  show wpAny _ _ (Builtin.SmallTypes.ownedTupleIsFree (.ref z) >>= _) _ _ _
  refine wpAny_bind (wpAny_tupleHeld_zip hz hT fun h₁ hz₁ hs₁ => ?_)
  replace hs₁ : Heap.SameBut z hp h₁ := hs₁
  simp only [Bool.false_eq_true, if_false]
  refine wpAny_bind ?_
  rw [← Array.forIn_toList]
  simp only [List.forIn_cons, List.forIn_nil]
  refine wpAny_bind (wpAny_bind (wpAny_holding ?_))
  show wpAny _ _ (Builtin.SmallTypes.nextOf (.ref i1) >>= _) _ _ _
  by_cases hlt1 : i < n1
  · have hi2 : i = n2 := by omega
    refine wpAny_bind (D1.item i ⟨h₁, g, d, tk0, os⟩ _ _ hlt1 (D1.over st1 hs₁ S.zf1) fun x1 h₂ tk1 hx1 sn1 hs₂ => wpAny_pure ?_)
    replace hs₂ : Heap.SameBut i1 h₁ h₂ := hs₂
    refine wpAny_pure ?_
    refine wpAny_bind (wpAny_bind (wpAny_holding ?_))
    show wpAny _ _ (Builtin.SmallTypes.nextOf (.ref i2) >>= _) _ _ _
    refine wpAny_bind (D2.done ⟨h₂, g, d, tk1, os⟩ _ _ (by rw [← hi2]; exact D2.over (D2.over st2 hs₁ S.zf2) hs₂ S.sep1_2) fun h₃ e hs₃ he => ?_)
    exact hE h₃ tk1 e (fun c o c1 c2 c3 x => hs₃ _ _ c3 (hs₂.extBut _ _ c2 (hs₁.extBut _ _ c1 x))) he
  · have hi1 : i = n1 := by omega
    refine wpAny_bind (D1.done ⟨h₁, g, d, tk0, os⟩ _ _ (by rw [← hi1]; exact D1.over st1 hs₁ S.zf1) fun h₂ e hs₂ he => ?_)
    exact hE h₂ tk0 e (fun c o c1 c2 _ x => hs₂ _ _ c2 (hs₁.extBut _ _ c1 x)) he
/-- a zip while a list at S takes its tuples -/
def ZS (z TI TO i1 i2 S : Addr) (St1 St2 : Nat → Heap → Prop) (i : Nat) (h : Heap) : Prop := IsTupOf2 h TI (.ref i1) (.ref i2) ∧ St1 i h ∧ St2 i h ∧
  ((IsZip h z TI TO .none ∧ ∃ a b, IsTupOf2 h TO a b) ∨ ∃ T f oT, IsZipHeld h z TI TO T f ∧ h.get? T = some oT ∧ T ≠ z ∧ T ≠ i1 ∧ T ≠ i2 ∧ T ≠ S)
structure ZOff (z TI TO i1 i2 : Addr) (fp1 fp2 : List Addr) (S : Addr) : Prop where
  z : S ≠ z
  TI : S ≠ TI
  TO : S ≠ TO
  f1 : S ∉ fp1
  f2 : S ∉ fp2
theorem zs_typeIs {S : Addr} (Z : ZS z TI TO i1 i2 S St1 St2 i s.heap) : s.TypeIs (.ref z) "zip" := by
  obtain ⟨_, _, _, ⟨hz, _⟩ | ⟨T, f, oT, hz, _⟩⟩ := Z
  · exact ⟨_, hz, rfl⟩
  · exact ⟨_, hz, rfl⟩
theorem zs_frame {S : Addr} (O : ZOff z TI TO i1 i2 fp1 fp2 S) (D1 : Draws prog w A i1 fp1 n1 P1 St1) (D2 : Draws prog w A i2 fp2 n2 P2 St2) {h h' : Heap} (Z : ZS z TI TO i1 i2 S St1 St2 i h) (k : ∀ b o, b ≠ S → h.get? b = some o → h'.get? b = some o) : ZS z TI TO i1 i2 S St1 St2 i h' := by
  obtain ⟨hTI, st1, st2, hz⟩ := Z
  refine ⟨k _ _ (Ne.symm O.TI) hTI, D1.frame _ _ _ st1 fun b hb o e => k b o (fun q => O.f1 (q ▸ hb)) e, D2.frame _ _ _ st2 fun b hb o e => k b o (fun q => O.f2 (q ▸ hb)) e, ?_⟩
  rcases hz with ⟨hz, a, b, hTO⟩ | ⟨T, f, oT, hz, hT, r1, r2, r3, r4⟩
  · exact .inl ⟨k _ _ (Ne.symm O.z) hz, a, b, k _ _ (Ne.symm O.TO) hTO⟩
  · exact .inr ⟨T, f, oT, k _ _ (Ne.symm O.z) hz, k _ _ r4 hT, r1, r2, r3, r4⟩
theorem zs_item {S : Addr} {Q : Option Value → Shared → Prop} (Sp : ZipSep2 z TI TO i1 i2 fp1 fp2) (D1 : Draws prog w A.in1 i1 fp1 n1 P1 St1) (D2 : Draws prog w A.in1 i2 fp2 n2 P2 St2) (Z : ZS z TI TO i1 i2 S St1 St2 i s.heap) (hlt1 : i < n1) (hlt2 : i < n2) (hS : S < s.heap.objs.size)
    (hQ : ∀ x1 x2 h' tk, P1 i x1 → P2 i x2 → ZS z TI TO i1 i2 S St1 St2 (i + 1) h' → IsTupOf2 h' s.heap.objs.size x1 x2 → h'.objs.size = s.heap.objs.size + 1 →
      (∀ c o, c ≠ z → c ≠ TO → c ≠ i1 → c ≠ i2 → s.heap.get? c = some o → h'.get? c = some o) → Q (some (.ref s.heap.objs.size)) { s with heap := h', toks := tk }) :
    wpAny (model prog w) A (pyNext (.ref z)) Q E s := by
  have hTy := zs_typeIs Z
  obtain ⟨hTI, st1, st2, hz⟩ := Z
  have lt : ∀ {c o}, s.heap.get? c = some o → s.heap.objs.size ≠ c := fun e => Nat.ne_of_gt (Heap.lt_size e)
  have n1' : s.heap.objs.size ≠ i1 := let ⟨_, e⟩ := D1.live i _ st1; lt e
  have n2' : s.heap.objs.size ≠ i2 := let ⟨_, e⟩ := D2.live i _ st2; lt e
  rcases hz with ⟨hz, a, b, hTO⟩ | ⟨T, f, oT, hz, hT, r1, r2, r3, r4⟩
  · refine wpAny_pyNext_zipD2_item Sp D1 D2 hz hTI hTO st1 st2 hlt1 hlt2 fun x1 x2 h' tk p1 p2 b1 b2 d1 d2 b5 b6 b7 => ?_
    exact hQ x1 x2 h' tk p1 p2 ⟨b7 _ _ Sp.TIz Sp.TITO Sp.TIi1 Sp.TIi2 hTI, d1, d2, .inr ⟨s.heap.objs.size, false, _, b1, b5, lt hz, n1', n2', Nat.ne_of_gt hS⟩⟩ b5 b6 b7
  · unfold pyNext
    refine wpAny_bind (wpAny_attempt (wpAny_callSpecial?_slot (name := Str.ofString "__next__") hTy F.slot_zip_next
      (wpAny_call_entry F.slot_zip_next hTy F.entry_zip_next
        (zipD2_item_held Sp D1 D2 hz hT hTI st1 st2 hlt1 hlt2 fun x1 x2 h' tk p1 p2 b1 d1 d2 b5 b6 b7 => wpAny_pure ?_) (F.args_zip_next_1 _))))
    exact hQ x1 x2 h' tk p1 p2 ⟨b7 _ _ Sp.TIz Sp.TIi1 Sp.TIi2 hTI, d1, d2, .inr ⟨T, true, oT, b1, b7 _ _ r1 r2 r3 hT, r1, r2, r3, r4⟩⟩ b5 b6 fun c o c1 _ c3 c4 e => b7 c o c1 c3 c4 e
theorem zs_end {S : Addr} {Q : Option Value → Shared → Prop} (Sp : ZipSep2 z TI TO i1 i2 fp1 fp2) (D1 : Draws prog w A.in1 i1 fp1 n1 P1 St1) (D2 : Draws prog w A.in1 i2 fp2 n2 P2 St2) (Z : ZS z TI TO i1 i2 S St1 St2 i s.heap) (hle1 : i ≤ n1) (hle2 : i ≤ n2) (hend : i = n1 ∨ i = n2)
    (hQ : ∀ h' tk, (∀ c o, c ≠ z → c ≠ TO → c ≠ i1 → c ≠ i2 → s.heap.get? c = some o → h'.get? c = some o) → Q none { s with heap := h', toks := tk }) : wpAny (model prog w) A (pyNext (.ref z)) Q E s := by
  have hTy := zs_typeIs Z
  obtain ⟨hTI, st1, st2, hz⟩ := Z
  rcases hz with ⟨hz, a, b, hTO⟩ | ⟨T, f, oT, hz, hT, r1, r2, r3, r4⟩
  · exact wpAny_pyNext_zipD2_end Sp D1 D2 hz hTI hTO st1 st2 hle1 hle2 hend hQ
  · unfold pyNext
    refine wpAny_bind (wpAny_attempt (wpAny_callSpecial?_slot (name := Str.ofString "__next__") hTy F.slot_zip_next
      (wpAny_call_entry F.slot_zip_next hTy F.entry_zip_next (zipD2_end_held Sp D1 D2 hz hT hTI st1 st2 hle1 hle2 hend fun h' tk e hk he => ?_) (F.args_zip_next_1 _))))
    obtain ⟨o, ho, hc⟩ := he
    refine wpAny_bind (wpAny_isInstance (T := "StopIteration") (b := true) ⟨o, ho, hc⟩ isSubtype_stop ?_)
    exact wpAny_pure (hQ _ _ fun c o c1 _ c3 c4 e => hk c o c1 c3 c4 e)
/-- the list's items: tuples in a row -/
def ZIt (P1 P2 : Nat → Value → Prop) (b0 : Nat) (acc : Array Value) (i : Nat) (h : Heap) : Prop := acc.size = i ∧ ∀ j, j < i → ∃ x y, acc[j]? = some (.ref (b0 + j)) ∧ P1 j x ∧ P2 j y ∧ IsTupOf2 h (b0 + j) x y
theorem ZIt.keep {b0 : Nat} {acc : Array Value} {h h' : Heap} (Z : ZIt P1 P2 b0 acc i h) (k : ∀ j, j < i → ∀ o, h.get? (b0 + j) = some o → h'.get? (b0 + j) = some o) : ZIt P1 P2 b0 acc i h' :=
  ⟨Z.1, fun j hj => let ⟨x, y, a, b, c, d⟩ := Z.2 j hj; ⟨x, y, a, b, c, k j hj _ d⟩⟩
end
section
variable {prog : Program} {w : World} {A : Around} {R : Result → Shared → Prop} {z TI TO i1 i2 : Addr} {fp1 fp2 : List Addr} {n1 n2 : Nat} {P1 P2 : Nat → Value → Prop} {St1 St2 : Nat → Heap → Prop}
theorem zs_loop (Sp : ZipSep2 z TI TO i1 i2 fp1 fp2) (D1 : Draws prog w A.in1.in1 i1 fp1 n1 P1 St1) (D2 : Draws prog w A.in1.in1 i2 fp2 n2 P2 St2) {S : Addr} (O : ZOff z TI TO i1 i2 fp1 fp2 S) (res : Value) {n b0 : Nat} (hn1 : n ≤ n1) (hn2 : n ≤ n2) (hend : n = n1 ∨ n = n2) (hn : n ≤ sizeLine)
    (hb : ∀ c ∈ [S, z, TO, i1, i2], c < b0) :
    ∀ (k i : Nat) (s : Shared) (acc : Array Value) (c : Nat), n - i = k → i ≤ n → ZS z TI TO i1 i2 S St1 St2 i s.heap → s.heap.get? S = some { cls := .type "list", dict := none, data := .seq acc c, slots := #[] } → s.heap.objs.size = b0 + i → ZIt P1 P2 b0 acc i s.heap →
    (∀ h' tk acc' c', (∀ b o, b ∉ [S, z, TO, i1, i2] → s.heap.get? b = some o → h'.get? b = some o) → h'.get? S = some { cls := .type "list", dict := none, data := .seq acc' c', slots := #[] } → ZIt P1 P2 b0 acc' n h' → R (.ok (.ret res)) { s with heap := h', toks := tk }) →
    codeAny (model prog w) A (.builtin "list.extend.loop" ⟨[.ref S, .ref z, res], []⟩) R s := by
  have out : ∀ j, b0 + j ∉ [S, z, TO, i1, i2] := fun j hm => Nat.lt_irrefl _ (Nat.lt_of_lt_of_le (hb _ hm) (Nat.le_add_right b0 j))
  have off : ∀ {b : Addr}, b ∉ [S, z, TO, i1, i2] → b ≠ S ∧ b ≠ z ∧ b ≠ TO ∧ b ≠ i1 ∧ b ≠ i2 := fun {b} h => by simpa using h
  have Sout : S ≠ z ∧ S ≠ TO ∧ S ≠ i1 ∧ S ≠ i2 := ⟨O.z, O.TO, fun e => O.f1 (e ▸ Sp.mem1), fun e => O.f2 (e ▸ Sp.mem2)⟩
  intro k
  induction k with
  | zero =>
    intro i s acc c hk hi Z hS hsz hacc hR
    have hin : i = n := by omega
    subst hin
    refine codeAny_builtin F.entry_extend_loop ?_
    rw [Around.under_plainId F.plain_extend_loop _]
    show wpAny _ A.in1 (pyNext (.ref z) >>= _) _ _ s
    refine wpAny_bind (zs_end Sp D1 D2 Z hn1 hn2 hend fun h' tk hk' => ?_)
    refine wpAny_pure (hR h' tk acc c (fun b o hb' e => ?_) ?_ ?_)
    · obtain ⟨_, q1, q2, q3, q4⟩ := off hb'
      exact hk' b o q1 q2 q3 q4 e
    · exact hk' _ _ Sout.1 Sout.2.1 Sout.2.2.1 Sout.2.2.2 hS
    · refine hacc.keep fun j hj o e => ?_
      obtain ⟨_, q1, q2, q3, q4⟩ := off (out j)
      exact hk' _ _ q1 q2 q3 q4 e
  | succ k ih =>
    intro i s acc c hk hi Z hS hsz hacc hR
    have hlt : i < n := by omega
    refine codeAny_builtin F.entry_extend_loop ?_
    rw [Around.under_plainId F.plain_extend_loop _]
    show wpAny _ A.in1 (pyNext (.ref z) >>= _) _ _ s
    refine wpAny_bind (zs_item Sp D1 D2 Z (by omega) (by omega) (Nat.lt_of_lt_of_le (hb S (by simp)) (by rw [hsz]; exact Nat.le_add_right _ _)) fun x1 x2 h' tk p1 p2 Z' hT hsz' hk' => ?_)
    have hS' : h'.get? S = some { cls := .type "list", dict := none, data := .seq acc c, slots := #[] } := hk' _ _ Sout.1 Sout.2.1 Sout.2.2.1 Sout.2.2.2 hS
    show wpAny _ A.in1 (updateSeq S (·.push (.ref s.heap.objs.size)) >>= _) _ _ _
    refine wpAny_bind ?_
    have oth : ∀ b o, b ≠ S → h'.get? b = some o → (h'.update S (Obj.mapSeq (·.push (.ref s.heap.objs.size)))).get? b = some o := fun b o hb' e => (Heap.get?_update_other _ _ (Ne.symm hb')).trans e
    refine wpAny_updateSeq (s := { s with heap := h', toks := tk }) hS' rfl (wpAny_pure ⟨plainId_quiet F.plain_extend_loop _, ih (i + 1) _ (acc.push (.ref s.heap.objs.size)) _ (by omega) hlt (zs_frame O D1 D2 Z' oth) (Heap.get?_update_self _ hS' rfl) ?_ ?_ fun h2 tk2 acc' c' q1 q2 q3 => ?_⟩)
      (by rw [hacc.1]; omega) (by show (acc.push _).size ≤ sizeLine + 1; rw [Array.size_push, hacc.1]; omega)
    · show (h'.update S _).objs.size = _
      rw [Heap.size_update, hsz', hsz]; omega
    · refine ⟨by rw [Array.size_push, hacc.1], fun j hj => ?_⟩
      by_cases e : j = i
      · subst e
        refine ⟨x1, x2, ?_, p1, p2, ?_⟩
        · rw [Array.getElem?_push, if_pos hacc.1.symm, hsz]
        · have := oth _ _ (Ne.symm (Nat.ne_of_lt (Nat.lt_of_lt_of_le (hb S (by simp)) (by rw [hsz]; exact Nat.le_add_right _ _)))) hT
          show (h'.update S (Obj.mapSeq fun x => x.push (Value.ref s.heap.objs.size))).get? (b0 + j) = _
          rw [← hsz]
          exact this
      · obtain ⟨x, y, a, b, c', d⟩ := hacc.2 j (by omega)
        refine ⟨x, y, ?_, b, c', ?_⟩
        · rw [Array.getElem?_push, if_neg (by rw [hacc.1]; omega)]; exact a
        · obtain ⟨q0, q1, q2, q3, q4⟩ := off (out j)
          exact oth _ _ q0 (hk' _ _ q1 q2 q3 q4 d)
    · refine hR h2 tk2 acc' c' (fun b o hb' e => q1 b o hb' ?_) q2 q3
      obtain ⟨r0, r1, r2, r3, r4⟩ := off hb'
      exact oth b o r0 (hk' b o r1 r2 r3 r4 e)
end
section
variable {prog : Program} {w : World} {A : Around} {E : Value → Shared → Prop} {s : Shared} {z TI TO i1 i2 : Addr} {fp1 fp2 : List Addr} {n1 n2 : Nat} {P1 P2 : Nat → Value → Prop} {St1 St2 : Nat → Heap → Prop}
theorem call_list_zip {Q : Value → Shared → Prop} {n : Nat} (Sp : ZipSep2 z TI TO i1 i2 fp1 fp2) (D1 : Draws prog w A.in1.in1.in1 i1 fp1 n1 P1 St1) (D2 : Draws prog w A.in1.in1.in1 i2 fp2 n2 P2 St2) (hz : IsZip s.heap z TI TO .none) (hTI : IsTupOf2 s.heap TI (.ref i1) (.ref i2)) (hTO : ∃ a b, IsTupOf2 s.heap TO a b) (st1 : St1 0 s.heap) (st2 : St2 0 s.heap)
    (hn1 : n ≤ n1) (hn2 : n ≤ n2) (hend : n = n1 ∨ n = n2) (hn : n ≤ sizeLine) (hf : ∀ b ∈ fp1 ++ fp2, b < s.heap.objs.size)
    (hQ : ∀ h' tk acc c, (∀ b o, b ∉ [z, TO, i1, i2] → s.heap.get? b = some o → h'.get? b = some o) → h'.get? s.heap.objs.size = some { cls := .type "list", dict := none, data := .seq acc c, slots := #[] } → ZIt P1 P2 (s.heap.objs.size + 1) acc n h' → Q (.ref s.heap.objs.size) { s with heap := h', toks := tk }) :
    wpAny (model prog w) A (call (.type "list") [.ref z]) Q E s := by
  have lz := Heap.lt_size hz
  have lTI := Heap.lt_size hTI
  have lTO := let ⟨a, b, h⟩ := hTO; Heap.lt_size h
  have li1 : i1 < s.heap.objs.size := hf _ (List.mem_append_left _ Sp.mem1)
  have li2 : i2 < s.heap.objs.size := hf _ (List.mem_append_right _ Sp.mem2)
  have O : ZOff z TI TO i1 i2 fp1 fp2 s.heap.objs.size := ⟨Nat.ne_of_gt lz, Nat.ne_of_gt lTI, Nat.ne_of_gt lTO, fun h => Nat.lt_irrefl _ (hf _ (List.mem_append_left _ h)), fun h => Nat.lt_irrefl _ (hf _ (List.mem_append_right _ h))⟩
  refine callType_codes (Q₁ := fun obj s₁ => obj = .ref s.heap.objs.size ∧ s₁ = { s with heap := s.heap.push { cls := .type "list", data := .seq #[] } }) F.called_list (F.typeCall_list_1 _) F.entry_list_init
    (code_list_new _ ⟨rfl, rfl⟩) fun obj s₁ h₁ => ?_
  obtain ⟨rfl, rfl⟩ := h₁
  have hS : (s.heap.push { cls := .type "list", data := .seq #[] }).get? s.heap.objs.size = some { cls := .type "list", data := .seq #[] } := Heap.get?_push_size _ rfl
  refine ⟨⟨_, hS, rfl⟩, F.args_list_init_2 _ _, ?_⟩
  have k0 : ∀ b o, s.heap.get? b = some o → (s.heap.push { cls := .type "list", data := .seq #[] }).get? b = some o := fun b o e => Heap.get?_push_of_some _ e
  have Z0 : ZS z TI TO i1 i2 s.heap.objs.size St1 St2 0 s.heap := ⟨hTI, st1, st2, .inl ⟨hz, hTO⟩⟩
  have sz0 : (s.heap.push { cls := .type "list", data := .seq #[] }).objs.size = s.heap.objs.size + 1 := Heap.size_push ..
  generalize hG : s.heap.push { cls := .type "list", data := .seq #[] } = G at hS k0 sz0 ⊢
  show wpAny _ A.in1.in1 (do let old ← Builtin.List.listItems (.ref s.heap.objs.size); Builtin.List.listUpdate (.ref s.heap.objs.size) (fun _ => #[]); letGo old.toList.reverse; Builtin.List.listExtendWith (.ref s.heap.objs.size) (.ref z) .none) _ _ { s with heap := G }
  refine wpAny_bind ?_
  unfold Builtin.List.listItems
  refine wpAny_bind (wpAny_seqItems (s := { s with heap := G }) hS rfl (wpAny_pure ?_))
  show wpAny _ A.in1.in1 (updateSeq s.heap.objs.size (fun _ => #[]) >>= fun _ => letGo (#[] : Array Value).toList.reverse >>= fun _ => Builtin.List.listExtendWith (.ref s.heap.objs.size) (.ref z) .none) _ _ { s with heap := G }
  refine wpAny_bind (wpAny_updateSeq (s := { s with heap := G }) hS rfl ?_)
  have hS₂ := Heap.get?_update_self (Obj.mapSeq (fun _ => (#[] : Array Value))) hS rfl
  have oth : ∀ b o, b ≠ s.heap.objs.size → G.get? b = some o → (G.update s.heap.objs.size (Obj.mapSeq (fun _ => (#[] : Array Value)))).get? b = some o :=
    fun b o hb e => (Heap.get?_update_other _ _ (Ne.symm hb)).trans e
  have sz1 : (G.update s.heap.objs.size (Obj.mapSeq (fun _ => (#[] : Array Value)))).objs.size = s.heap.objs.size + 1 := by rw [Heap.size_update, sz0]
  generalize hG1 : G.update s.heap.objs.size (Obj.mapSeq (fun _ => (#[] : Array Value))) = G1 at hS₂ oth sz1 ⊢
  refine wpAny_bind (wpAny_letGo ?_)
  have Z1 : ZS z TI TO i1 i2 s.heap.objs.size St1 St2 0 G1 := zs_frame O D1 D2 Z0 fun b o hb e => oth b o hb (k0 b o e)
  unfold Builtin.List.listExtendWith
  refine wpAny_bind (wpAny_typeOf (s := { s with heap := G1 }) (zs_typeIs (s := { s with heap := G1 }) Z1) ?_)
  have h1 : Builtin.List.listSameRef (.ref s.heap.objs.size) (.ref z) = false := by simp [Builtin.List.listSameRef, Nat.ne_of_gt lz]
  have h2 : (Value.type "zip" == Value.type "list") = false := by decide
  have h3 : (Value.type "zip" == Value.type "tuple") = false := by decide
  simp only [h1, h2, h3, Bool.or_false, Bool.false_eq_true, if_false]
  have hz1 : IsZip G1 z TI TO .none := oth _ _ (Nat.ne_of_lt lz) (k0 _ _ hz)
  refine wpAny_bind (wpAny_pyIter_zip (s := { s with heap := G1 }) hz1 ?_)
  refine wpAny_bind (wpAny_holding ?_)
  unfold Builtin.List.listLengthHint
  refine wpAny_bind (wpAny_specialOf (zs_typeIs (s := { s with heap := G1 }) Z1) F.zip_no_len ?_)
  show wpAny _ A.in1.in1 (specialOf (Value.ref z) (Str.ofString "__length_hint__") >>= _) _ _ _
  refine wpAny_bind (wpAny_specialOf (zs_typeIs (s := { s with heap := G1 }) Z1) F.zip_no_hint ?_)
  refine wpAny_pure ?_
  show wpAny _ A.in1.in1 (rule "list.extend.makes-room" >>= fun _ => Builtin.List.listTouch (.ref s.heap.objs.size) >>= fun _ =>
    again (.builtin "list.extend.loop" ⟨[.ref s.heap.objs.size, .ref z, .none], []⟩)) _ _ _
  refine wpAny_bind (wpAny_rule ?_)
  refine wpAny_bind ?_
  show wpAny _ A.in1.in1 (updateSeq s.heap.objs.size (·.push .none) >>= fun _ => updateSeq s.heap.objs.size (·.pop)) _ _ _
  refine wpAny_bind (wpAny_updateSeq (s := { s with heap := G1 }) hS₂ rfl ?_)
  have hS3 := Heap.get?_update_self (Obj.mapSeq (·.push Value.none)) hS₂ rfl
  refine wpAny_updateSeq (hz := by seq_fits) hS3 rfl ?_
  have hS4 := Heap.get?_update_self (Obj.mapSeq (·.pop)) hS3 rfl
  have oth2 : ∀ b o, b ≠ s.heap.objs.size → G1.get? b = some o → ((G1.update s.heap.objs.size (Obj.mapSeq (·.push Value.none))).update s.heap.objs.size (Obj.mapSeq (·.pop))).get? b = some o :=
    fun b o hb e => (Heap.get?_update_other _ _ (Ne.symm hb)).trans ((Heap.get?_update_other _ _ (Ne.symm hb)).trans e)
  have sz2 : ((G1.update s.heap.objs.size (Obj.mapSeq (·.push Value.none))).update s.heap.objs.size (Obj.mapSeq (·.pop))).objs.size = s.heap.objs.size + 1 := by rw [Heap.size_update, Heap.size_update, sz1]
  refine wpAny_pure ⟨plainId_quiet F.plain_extend_loop _, zs_loop (b0 := s.heap.objs.size + 1) (n := n) Sp D1 D2 O .none hn1 hn2 hend hn ?_ n 0 _ _ _ rfl (Nat.zero_le _) (zs_frame O D1 D2 Z1 oth2) hS4 sz2 ⟨rfl, fun j hj => by omega⟩ fun h' tk acc c q1 q2 q3 => ?_⟩
  · intro c hc
    simp only [List.mem_cons, List.not_mem_nil, or_false] at hc
    rcases hc with rfl | rfl | rfl | rfl | rfl
    · exact Nat.lt_succ_self _
    · exact Nat.lt_succ_of_lt lz
    · exact Nat.lt_succ_of_lt lTO
    · exact Nat.lt_succ_of_lt li1
    · exact Nat.lt_succ_of_lt li2
  · refine ⟨rfl, hQ h' tk acc c (fun b o hb e => ?_) q2 q3⟩
    have hne : b ≠ s.heap.objs.size := Nat.ne_of_lt (Heap.lt_size e)
    exact q1 b o (by simp only [List.mem_cons, not_or] at hb ⊢; exact ⟨hne, hb⟩) (oth2 b o hne (oth b o hne (k0 b o e)))
end
end PySem
set_option Elab.async false
set_option linter.all false
set_option maxRecDepth 100000
set_option maxHeartbeats 4000000
namespace DL
open PySem PySem.Spec PyProof.Rows L2
/-- nothing knows a yet -/
structure NewA (X : Cx) (pins : List (Addr × Obj)) (H : Hp) (a : Addr) : Prop where
  n : H a = none
  s : X.s_0.heap.objs.size ≤ a
  l : a ≠ X.env.locals
  c : ∀ x c, X.env.cells.lookup x = some c → c ≠ a
  p : ∀ p ∈ X.pn ++ pins, p.1 ≠ a
theorem newA {X : Cx} {pins : List (Addr × Obj)} {σ : L2.St} {H : Hp} {s : Shared} (I : Inv X pins σ H s) {a : Addr} (h : s.heap.objs.size ≤ a) : NewA X pins H a := by
  refine ⟨I.hok.fresh h, Nat.le_trans I.sz h, fun z => ?_, fun y c e z => ?_, fun q hq z => ?_⟩
  · exact Nat.lt_irrefl _ (Nat.lt_of_lt_of_le (show a < s.heap.objs.size from by rw [z]; exact I.lt) h)
  · obtain ⟨v, o, ho, _⟩ := I.cell y c e
    exact Nat.lt_irrefl _ (Nat.lt_of_lt_of_le (show a < s.heap.objs.size from by rw [← z]; exact Heap.lt_size ho) h)
  · exact Nat.lt_irrefl _ (Nat.lt_of_lt_of_le (show a < s.heap.objs.size from by rw [← z]; exact Heap.lt_size (I.pin q hq).1) h)
theorem NewA.upd {X : Cx} {pins : List (Addr × Obj)} {H : Hp} {a b : Addr} {o : HO} (h : NewA X pins H a) (hb : a ≠ b) : NewA X pins (upd H b o) a := ⟨by rw [upd_ne hb]; exact h.n, h.s, h.l, h.c, h.p⟩
theorem NewA.track {X : Cx} {pins : List (Addr × Obj)} {σ : L2.St} {H : Hp} {s : Shared} {a : Addr} {o : HO} (h : NewA X pins H a) (I : Inv X pins σ H s) (ho : ObjOk X.prog X.w (L2.upd H a o) s.heap a o) : Inv X pins σ (L2.upd H a o) s := HD.inv_track I h.n h.s h.l h.c h.p ho
variable [TabCtx]
/-- pairs in a row come to be known -/
theorem lay_pairs {X : Cx} {pins : List (Addr × Obj)} {σ : L2.St} {s : Shared} : ∀ (ps : List (L2.V × L2.V)) (b : Nat) (H V : Hp), Inv X pins σ H s → Same V H → (∀ j, j < ps.length → NewA X pins H (b + j)) →
    (∀ (j : Nat) p, ps[j]? = some p → ∃ u v, RelV p.1 u ∧ RelV p.2 v ∧ s.heap.get? (b + j) = some { cls := .type "tuple", data := .seq #[u, v] }) →
    ∃ H' V', Inv X pins σ H' s ∧ Ext H V H' V' ∧ (∀ a, (∀ j, j < ps.length → a ≠ b + j) → H' a = H a) ∧ ∀ (j : Nat) p, ps[j]? = some p → V' (b + j) = some (.tup [p.1, p.2])
  | [], b, H, V, I, sv, _, _ => ⟨H, V, I, Ext.refl sv, fun _ _ => rfl, fun j p h => by simp at h⟩
  | p :: ps, b, H, V, I, sv, hn, ho => by
    have n0 := hn 0 (by simp)
    obtain ⟨u, v, ru, rv, hT⟩ := ho 0 p rfl
    have I1 := n0.track (o := .tup [p.1, p.2]) I ⟨by rw [sizeLine_eq]; simp, [u, v], .cons ru (.cons rv .nil), ⟨_, hT, rfl, _, rfl⟩⟩
    have x1 : Ext H V (upd H (b + 0) (.tup [p.1, p.2])) (upd V (b + 0) (.tup [p.1, p.2])) := Ext.new sv n0.n
    obtain ⟨H', V', I2, x2, k2, q2⟩ := lay_pairs ps (b + 1) _ _ I1 x1.s (fun j hj => by
      have := hn (j + 1) (by simp; omega)
      rw [show b + (j + 1) = b + 1 + j by omega] at this
      exact this.upd (by intro z; have : b + 1 + j = b + 0 := z; omega)) (fun j q hq => by
      have := ho (j + 1) q (by simpa using hq)
      rw [show b + (j + 1) = b + 1 + j by omega] at this
      exact this)
    refine ⟨H', V', I2, x1.trans x2, fun a ha => ?_, fun j q hq => ?_⟩
    · rw [k2 a fun j hj => by
        have := ha (j + 1) (by simp; omega)
        rw [show b + (j + 1) = b + 1 + j by omega] at this
        exact this]
      exact upd_ne (ha 0 (by simp))
    · cases j with
      | zero =>
        have e : p = q := by simpa using hq
        subst e
        exact x2.v _ _ upd_same
      | succ j =>
        rw [show b + (j + 1) = b + 1 + j by omega]
        exact q2 j q (by simpa using hq)
theorem rep_pairs {K : KW} {V V' : Hp} (sv : Same V V') : ∀ {xs ys : List L2.V} {ds es : List PyData} (b : Nat), RepL K V xs ds → RepL K V ys es → (∀ (j : Nat) p, (xs.zip ys)[j]? = some p → V' (b + j) = some (.tup [p.1, p.2])) → RepL K V' ((List.range (xs.zip ys).length).map fun j => .ref (b + j)) (zipD ds es)
  | _, _, _, _, b, .nil, _, _ => by simp [zipD]; exact .nil
  | _, _, _, _, b, .cons _ _, .nil, _ => by simp [zipD]; exact .nil
  | x :: xs, y :: ys, d :: ds, e :: es, b, .cons r t, .cons r' t', h => by
    have h0 := h 0 (x, y) rfl
    have ih := rep_pairs sv (b + 1) t t' (fun j p hp => by
      have := h (j + 1) p (by simpa using hp)
      rw [show b + (j + 1) = b + 1 + j by omega] at this
      exact this)
    rw [List.zip_cons_cons, List.length_cons, List.range_succ_eq_map, List.map_cons, List.map_map]
    refine .cons (.tup h0 (.cons (r.mono sv) (.cons (r'.mono sv) .nil))) ?_
    have e : ((fun j => L2.V.ref (b + j)) ∘ Nat.succ) = fun j => L2.V.ref (b + 1 + j) := by
      funext j; show L2.V.ref (b + (j + 1)) = _; rw [show b + (j + 1) = b + 1 + j by omega]
    rw [e]
    exact ih
def seqD : PyData → Option (List PyData)
  | .list ds => some ds
  | .tuple ds => some ds
  | _ => none
/-- what a list or a tuple gives to zip -/
structure SeqB (prog : Program) (w : World) (s : Shared) (a : Addr) (its : List Value) (o : Obj) (Hh : Heap → Prop) (St : Addr → Nat → Heap → Prop) : Prop where
  B : Begins (.ref a) o Hh
  hh : Hh s.heap
  D : ∀ (A : Around) (it : Addr), A.handled = none → a ≠ it → Draws prog w A it [it, a] its.length (fun i v => its[i]? = some v) (St it)
  st : ∀ (h : Heap) (it : Addr), h.get? it = some o → Hh h → St it 0 h
  lt : a < s.heap.objs.size
theorem seqB {X : Cx} {pins : List (Addr × Obj)} {σ : L2.St} {H V : Hp} {s : Shared} {K : KW} (I : Inv X pins σ H s) (sv : Same V H) {x : L2.V} {d : PyData} {ds : List PyData} (r : Rep K V x d) (hd : seqD d = some ds) : ∃ a xs its o Hh St, x = .ref a ∧ RepL K V xs ds ∧ Vals xs its ∧ SeqB X.prog X.w s a its o Hh St := by
  cases r with
  | @lst a xs es h rl =>
    have e : es = ds := by injection hd
    subst e
    obtain ⟨its, rv, pl, hz⟩ := I.list (.inl (.inl (sv _ _ h)))
    refine ⟨a, xs, its, _, _, fun it i h => h.IsListIter it a i ∧ h.IsList a its.toArray, rfl, rl, rv, begins_list a its.toArray, pl.isList, fun A it hh hne => ?_, fun h it e hl => ⟨⟨_, e, rfl, rfl⟩, hl⟩, pl.lt⟩
    have D := Draws.list (prog := X.prog) (w := X.w) (A := A) hh it a hne its.toArray
    simp only [List.size_toArray, List.getElem?_toArray] at D
    exact D
  | @tup a xs es h rl =>
    have e : es = ds := by injection hd
    subst e
    obtain ⟨its, rv, pl, hz⟩ := I.tuple (.inl (.inl (sv _ _ h)))
    refine ⟨a, xs, its, _, _, fun it i h => h.IsTupleIter it a i ∧ h.IsTuple a its.toArray, rfl, rl, rv, begins_tuple a its.toArray, pl, fun A it hh hne => ?_, fun h it e hl => ⟨⟨_, e, rfl, rfl⟩, hl⟩, let ⟨o, ho, _⟩ := pl; Heap.lt_size ho⟩
    have D := Draws.tuple (prog := X.prog) (w := X.w) (A := A) hh it a hne its.toArray
    simp only [List.size_toArray, List.getElem?_toArray] at D
    exact D
  | _ => cases hd
def gLZip : List PyData → Option PyData
  | [a, b] => (seqD a).bind fun xs => (seqD b).bind fun ys => if xs.length ≤ LIM then some (.list (zipD xs ys)) else none
  | _ => none
theorem neq {x y : Nat} (h : x < y ∨ y < x) : x ≠ y := by omega
theorem nin {x y z : Nat} (h1 : x < y ∨ y < x) (h2 : x < z ∨ z < x) : x ∉ [y, z] := by simp; omega
theorem zsep {n a b : Nat} (la : a < n) (lb : b < n) : ZipSep2 (n + 4) (n + 2) (n + 3) n (n + 1) [n, a] [n + 1, b] :=
  have c1 : n + 2 < n + 4 ∨ n + 4 < n + 2 := by omega
  have c2 : n + 3 < n + 4 ∨ n + 4 < n + 3 := by omega
  have c3 : n + 2 < n + 3 ∨ n + 3 < n + 2 := by omega
  have c4 : n + 2 < n ∨ n < n + 2 := by omega
  have c5 : n + 4 < n ∨ n < n + 4 := by omega
  have c6 : n + 4 < a ∨ a < n + 4 := by omega
  have c7 : n + 3 < n ∨ n < n + 3 := by omega
  have c8 : n + 3 < a ∨ a < n + 3 := by omega
  have c9 : n + 2 < n + 1 ∨ n + 1 < n + 2 := by omega
  have d1 : n + 4 < n + 1 ∨ n + 1 < n + 4 := by omega
  have d2 : n + 4 < b ∨ b < n + 4 := by omega
  have d3 : n + 3 < n + 1 ∨ n + 1 < n + 3 := by omega
  have d4 : n + 3 < b ∨ b < n + 3 := by omega
  have d5 : n < n + 1 ∨ n + 1 < n := by omega
  have d6 : n < b ∨ b < n := by omega
  have d7 : n + 1 < n ∨ n < n + 1 := by omega
  have d8 : n + 1 < a ∨ a < n + 1 := by omega
  ⟨neq c1, neq c2, neq c3, neq c4, by simp, nin c5 c6, nin c7 c8, neq c9, by simp, nin d1 d2, nin d3 d4, nin d5 d6, nin d7 d8⟩
theorem vals_refs {acc : Array Value} {n b : Nat} (hl : acc.size = n) (h : ∀ j, j < n → acc[j]? = some (.ref (b + j))) : Vals ((List.range n).map fun j => L2.V.ref (b + j)) acc.toList := by
  have e : acc.toList = (List.range n).map fun j => Value.ref (b + j) := by
    apply List.ext_getElem?
    intro j
    by_cases hj : j < n
    · rw [Array.getElem?_toList, h j hj, List.getElem?_map, List.getElem?_range hj]; rfl
    · rw [Array.getElem?_toList, Array.getElem?_eq_none (by omega), List.getElem?_map, List.getElem?_eq_none (by simp; omega)]; rfl
  rw [e]
  have : ∀ l : List Nat, Vals (l.map fun j => L2.V.ref (b + j)) (l.map fun j => Value.ref (b + j)) := fun l => by
    induction l with
    | nil => exact .nil
    | cons x l ih => exact .cons rfl ih
  exact this _
section
variable {X : Cx} {F : Fr} {e e2 : Expr} {fs : M (List PyData)} {p p2 pos pos2 : Pos}
theorem pm_lzip (hm : X.mg "list" = none) (hmz : X.mg "zip" = none) (ha : PMA X F [e, e2] fs) (hg : Gl X "list" := by rfl) (hgz : Gl X "zip" := by rfl) (hc : X.calm = true := by rfl)
    (na : starEach [.Call (.Name "zip" p2) [e, e2] [] pos2] X.env = (false, eval (.Call (.Name "zip" p2) [e, e2] [] pos2) X.env) :: starEach [] X.env := by rfl)
    (hs : starEach [e, e2] X.env = (false, eval e X.env) :: starEach [e2] X.env := by rfl) (hpl : (backTo pos2 (starEach [e2] X.env)).any (·.1) = false := by rfl) :
    PM X F (.Call (.Name "list" p) [.Call (.Name "zip" p2) [e, e2] [] pos2] [] pos) (opA gLZip fs) := by
  refine ⟨fun pins s σ H Q I ⟨V, ρ, E, g0⟩ => ?_⟩
  refine Call_ (ld_blt I hg hm boot_list (PyProof.Rows.callWith_type1 (args_cons (thn (Q := fun x s1 => wpAny (model X.prog X.w) X.A (call (.type "list") [x]) (EP X pins σ Q) X.xe s1) ?_ fun x s1 h => args_nil h) na) na))
  refine Call_ (ld_blt I hgz hmz PyProof.Rows.boot_zip (PyProof.Rows.callWith_type1 (thn (ha.run pos2 pins s σ H (fun vs H1 => ∃ V1 ρ1 ds z, EnvR X.kw F H1 V1 σ ρ1 ∧ RepL X.kw V1 vs ds ∧ gLZip ds = some z ∧ ∀ v H2 V2, Ext H1 V1 H2 V2 → Rep X.kw V2 v z → Q v H2) I ⟨V, ρ, E, Goal.bind g0 fun vs ds H1 V1 ρ1 st1 r1 g1 => ?_⟩) fun us s1 ⟨vs, H1, I1, rv, V1, ρ1, ds, z, E1, rl, ez, q⟩ => ?_) hs hpl))
  · obtain ⟨z, ez, q⟩ := Goal.opt st1.env g1
    exact ⟨V1, ρ1, ds, z, st1.env, r1, ez, q⟩
  · have sv := E1.sub
    cases rl with
    | nil => cases ez
    | cons r1 rl =>
      cases rl with
      | nil => cases ez
      | cons r2 rl =>
        cases rl with
        | cons _ _ => cases ez
        | nil =>
          rename_i x1 d1 x2 d2
          cases rv with
          | cons rv1 rv =>
            cases rv with
            | cons rv2 rv =>
              cases rv
              have ez : ((seqD d1).bind fun xs => (seqD d2).bind fun ys => if xs.length ≤ LIM then some (PyData.list (zipD xs ys)) else none) = some z := ez
              obtain ⟨ds1, hd1, ez⟩ := Option.bind_eq_some_iff.mp ez
              obtain ⟨ds2, hd2, ez⟩ := Option.bind_eq_some_iff.mp ez
              obtain ⟨hlim, rfl⟩ := ite_some ez
              obtain ⟨a, xs, its1, o1, H1', St1, rfl, rx, vx, B1⟩ := seqB I1 sv r1 hd1
              obtain ⟨b, ys, its2, o2, H2', St2, rfl, ry, vy, B2⟩ := seqB I1 sv r2 hd2
              cases rv1
              cases rv2
              refine zip_begins2 B1.B B2.B B1.hh B2.hh fun h' hz hTI hTO g1 g2 hsz hk => ?_
              have la := B1.lt
              have lb := B2.lt
              have hh : X.A.handled = none := I1.ok.hd hc
              have ne1 : a ≠ s1.heap.objs.size := Nat.ne_of_lt la
              have ne2 : b ≠ s1.heap.objs.size + 1 := Nat.ne_of_lt (Nat.lt_succ_of_lt lb)
              have D1 := B1.D X.A.in1.in1.in1 s1.heap.objs.size hh ne1
              have D2 := B2.D X.A.in1.in1.in1 (s1.heap.objs.size + 1) hh ne2
              have Sp : ZipSep2 (s1.heap.objs.size + 4) (s1.heap.objs.size + 2) (s1.heap.objs.size + 3) s1.heap.objs.size (s1.heap.objs.size + 1) [s1.heap.objs.size, a] [s1.heap.objs.size + 1, b] := zsep la lb
              have hlx := vx.length
              have hly := vy.length
              have hdx := rx.length
              have hdy := ry.length
              have hz63 : min its1.length its2.length ≤ sizeLine := by
                have : its1.length ≤ 1000000 := by rw [← hlx, hdx]; exact hlim
                rw [sizeLine_eq]; omega
              refine call_list_zip (n := min its1.length its2.length) (s := { s1 with heap := h' }) Sp D1 D2 hz hTI ⟨_, _, hTO⟩ (B1.st _ _ g1 (B1.B.keeps _ _ B1.hh hk)) (B2.st _ _ g2 (B2.B.keeps _ _ B2.hh hk)) (Nat.min_le_left ..) (Nat.min_le_right ..) (by omega) hz63 ?_ fun h2 tk acc c k2 hl2 it => ?_
              · intro c hcm
                show c < h'.objs.size
                rw [hsz]
                simp only [List.cons_append, List.nil_append, List.mem_cons, List.not_mem_nil, or_false] at hcm
                rcases hcm with rfl | rfl | rfl | rfl
                · exact Nat.lt_add_of_pos_right (by decide)
                · exact Nat.lt_add_right _ la
                · exact Nat.add_lt_add_left (by decide) _
                · exact Nat.lt_add_right _ lb
              · have hs5 : ({ s1 with heap := h' } : Shared).heap.objs.size = s1.heap.objs.size + 5 := hsz
                rw [hs5] at hl2 it ⊢
                have kk : ∀ c o, s1.heap.get? c = some o → h2.get? c = some o := fun c o e => by
                  have lt := Heap.lt_size e
                  refine k2 c o ?_ (hk c o e)
                  intro hm'
                  simp only [List.mem_cons, List.not_mem_nil, or_false] at hm'
                  rcases hm' with rfl | rfl | rfl | rfl
                  · exact Nat.lt_irrefl _ (Nat.lt_of_le_of_lt (Nat.le_add_right _ _) lt)
                  · exact Nat.lt_irrefl _ (Nat.lt_of_le_of_lt (Nat.le_add_right _ _) lt)
                  · exact Nat.lt_irrefl _ lt
                  · exact Nat.lt_irrefl _ (Nat.lt_of_le_of_lt (Nat.le_add_right _ _) lt)
                have I2 : L2.Inv X pins σ H1 { s1 with heap := h2, toks := tk } := I1.kept kk
                have hzl : (xs.zip ys).length = min its1.length its2.length := by rw [List.length_zip, hlx, hly]
                obtain ⟨H3, V3, I3, x3, k3, q3⟩ := lay_pairs (xs.zip ys) (s1.heap.objs.size + 5 + 1) H1 V1 I2 sv (fun j hj => newA I1 (Nat.le_trans (Nat.le_add_right _ 6) (Nat.le_add_right _ j))) (fun j p hp => by
                  obtain ⟨hp1, hp2⟩ := List.getElem?_zip_eq_some.mp hp
                  obtain ⟨u, hu, ru⟩ := vx.get hp1
                  obtain ⟨v, hv, rv⟩ := vy.get hp2
                  have hj : j < min its1.length its2.length := by
                    rw [← hzl]; exact (List.getElem?_eq_some_iff.mp hp).1
                  obtain ⟨u', v', _, p1, p2, hT⟩ := it.2 j hj
                  rw [hu] at p1; cases p1
                  rw [hv] at p2; cases p2
                  exact ⟨u, v, ru, rv, hT⟩)
                have hS : NewA X pins H3 (s1.heap.objs.size + 5) := by
                  have h0 := newA I1 (a := s1.heap.objs.size + 5) (Nat.le_add_right _ _)
                  exact ⟨by rw [k3 _ fun j hj z => absurd (show (s1.heap.objs.size + 5 : Nat) = s1.heap.objs.size + 5 + 1 + j from z) (by omega)]; exact h0.n, h0.s, h0.l, h0.c, h0.p⟩
                have hvals : Vals ((List.range (xs.zip ys).length).map fun j => L2.V.ref (s1.heap.objs.size + 5 + 1 + j)) acc.toList := by
                  rw [hzl]
                  refine vals_refs it.1 fun j hj => ?_
                  obtain ⟨_, _, e, _⟩ := it.2 j hj
                  exact e
                have I4 := hS.track (o := .lst ((List.range (xs.zip ys).length).map fun j => L2.V.ref (s1.heap.objs.size + 5 + 1 + j))) I3 ⟨by rw [List.length_map, List.length_range, hzl]; exact hz63, acc.toList, c, hvals, by rw [Array.toArray_toList]; exact hl2⟩
                refine ⟨.ref (s1.heap.objs.size + 5), _, I4, rfl, q _ _ _ (x3.trans (Ext.new x3.s hS.n)) (.lst upd_same ?_)⟩
                refine (rep_pairs x3.v _ rx ry q3).mono (same_new (x3.s.free hS.n))
end
end DL
set_option Elab.async false
set_option linter.all false
set_option maxRecDepth 100000
set_option maxHeartbeats 4000000
namespace DL
open PySem PySem.Spec PyProof.Rows L2
variable [TabCtx]
theorem RepL.cons_inv {K : KW} {V : Hp} {vs : List L2.V} {d : PyData} {ds : List PyData} (r : RepL K V vs (d :: ds)) : ∃ v ws, vs = v :: ws ∧ Rep K V v d ∧ RepL K V ws ds := by
  cases r with
  | cons a b => exact ⟨_, _, rfl, a, b⟩
end DL
set_option Elab.async false
set_option linter.all false
set_option maxRecDepth 100000
set_option maxHeartbeats 4000000
namespace DL
open PySem PySem.Spec PyProof.Rows L2
section
variable {X : Cx} {pins : List (Addr × Obj)} {σ : L2.St} {H : Hp} {s : Shared}
theorem inv_pin {d : Addr} {o : Obj} (I : L2.Inv X pins σ H s) (h : s.heap.get? d = some o) (n : NewA X pins H d) (hf : d ∉ X.fs) (hc : ∀ v, o.data ≠ .cell v) : L2.Inv X ((d, o) :: pins) σ H s :=
  ⟨I.ok, I.os, I.bare, I.base, I.loc, I.cell, I.free, I.freeC, fun p hp => by
    rcases List.mem_append.mp hp with z | z
    · exact I.pin p (List.mem_append_left _ z)
    · rcases List.mem_cons.mp z with e | e
      · subst e; exact ⟨h, n.n, n.l, hf, hc⟩
      · exact I.pin p (List.mem_append_right _ e), I.hok, I.len⟩
theorem inv_unpin {p : Addr × Obj} (I : L2.Inv X (p :: pins) σ H s) : L2.Inv X pins σ H s :=
  ⟨I.ok, I.os, I.bare, I.base, I.loc, I.cell, I.free, I.freeC, fun q hq => I.pin q (by
    rcases List.mem_append.mp hq with z | z
    · exact List.mem_append_left _ z
    · exact List.mem_append_right _ (List.mem_cons_of_mem _ z)), I.hok, I.len⟩
end
def tD1 (w : World) (tk tv : TE) : TE := fun σ H Q => tk σ H fun x H1 => tv σ H1 fun y H2 =>
  (∃ q, x = kV q ∧ ∀ p, H2 p = none → Q (.ref p) (upd H2 p (.dK [(q, y)]))) ∨ ∃ k b, x = .ref b ∧ NAt H2 k (.ref b) ∧ k.depth ≤ 8 ∧ ∀ p ep, H2 p = none → Q (.ref p) (upd H2 p (dX w p [(k, b, y)] ep))
variable [TabCtx]
section
variable {X : Cx} {ke ve : Expr} {tk tv : TE} {pos : Pos}
theorem pe_d1 (hu : X.A.units + 64 < cLine) (hk : PE X ke tk) (hv : PE X ve tv)
    (hshape : (evalEachOpt [some ke] X.env).zip ((evalEach [ve] X.env).map fun v => do let x ← v; standAt pos; pure x) = [(some (eval ke X.env), do let x ← eval ve X.env; standAt pos; pure x)] := by rfl) : PE X (.Dict [some ke] [ve] pos) (tD1 X.w tk tv) := by
  refine ⟨fun pins s σ H Q I h => ?_⟩
  rw [arm_eval_Dict, hshape]
  rw [show [(some (eval ke X.env), do let x ← eval ve X.env; standAt pos; pure x)] = [(eval ke X.env, do let x ← eval ve X.env; standAt pos; pure x)].map (fun p : Sem Value × Sem Value => (some p.1, p.2)) from rfl, dictDisplay_pairs _ (by simp) (by simp)]
  refine wpAny_bind (wpAny_standAt (wpAny_bind ?_))
  unfold subDict
  refine wpAny_bind (wpAny_alloc ?_)
  refine wpAny_bind (wpAny_holding ?_)
  rw [if_pos (by simp)]
  have kp0 : ∀ b u, s.heap.get? b = some u → (s.heap.push { cls := .type "dict", data := .dict #[] }).get? b = some u := fun _ _ q => Heap.get?_push_of_some _ q
  have I0 : L2.Inv X pins σ H { s with heap := s.heap.push { cls := .type "dict", data := .dict #[] } } := I.kept (t' := s.toks) kp0
  have n0 : NewA X pins H s.heap.objs.size := newA I (Nat.le_refl _)
  have I1 := inv_pin I0 (Heap.get?_push_size _ rfl) n0 (I.nofs (Nat.le_refl _)) (fun v z => by cases z)
  have hbig : (s.heap.objs.size == sysModules) = false := beq_eq_false_iff_ne.mpr (Ne.symm (Nat.ne_of_lt I.big))
  refine wpAny_bind ?_
  unfold evalPairs
  refine wpAny_bind (thn (hk.run _ _ σ H _ I1 h) fun ku s1 ⟨x, H1, I2, rk, q1⟩ => ?_)
  refine wpAny_bind (wpAny_holding (wpAny_bind (thn (hv.run _ s1 σ H1 _ I2 q1) fun vu s2 ⟨y, H2, I3, rv, q2⟩ => wpAny_bind (wpAny_standAt (wpAny_pure ?_)))))
  unfold evalPairs
  refine wpAny_bind (wpAny_holding (wpAny_pure (wpAny_pure ?_)))
  refine wpAny_holding ?_
  rw [List.forIn_cons]
  obtain ⟨hd, hn, _⟩ := I3.pin (s.heap.objs.size, _) (List.mem_append_right _ List.mem_cons_self)
  have I4 := inv_unpin I3
  have n4 : NewA X pins H2 s.heap.objs.size := ⟨hn, n0.s, n0.l, n0.c, n0.p⟩
  have fin : ∀ {h' : Heap} {t' : Nat} {o : HO}, Heap.SameBut s.heap.objs.size s2.heap h' → ObjOk X.prog X.w (upd H2 s.heap.objs.size o) h' s.heap.objs.size o → L2.Inv X pins σ (upd H2 s.heap.objs.size o) { s2 with heap := h', toks := t' } := fun {h' t' o} sb ob =>
    n4.track (I4.turned (fun b u hb e => sb.extBut b u hb e) n4.n n4.l (.inr n4.s) n4.c n4.p) ob
  rcases q2 with ⟨q, ex, q2⟩ | ⟨k, b, ex, nb, db, q2⟩
  · subst ex
    have dd : s2.heap.DictOf (mixKind X.prog X.w) s.heap.objs.size [] := ⟨_, #[], 0, hd, ⟨rfl, rfl, rfl⟩, rfl, fun e he => by simp at he, .nil, List.nodup_nil⟩
    refine wpAny_bind (wpAny_bind (wpAny_bind (wpAny_dictSet_pairs (kV_is rk) dd (fun h' dd' hs => wpAny_pure ?_) (Nat.zero_le _))))
    show wpAny _ _ (forIn [] PUnit.unit _) _ _ _
    rw [List.forIn_nil]
    refine wpAny_pure (wpAny_pure (wpAny_pure (wpAny_pure ?_)))
    exact ⟨.ref s.heap.objs.size, _, fin hs (dk_new (by show 1 ≤ sizeLine; decide) hbig (.cons ⟨rfl, rv⟩ .nil) dd'), rfl, q2 _ n4.n⟩
  · subst ex
    cases rk
    have dd : s2.heap.DictOfH (nestedKind X.prog X.w) s.heap.objs.size [] := ⟨_, #[], 0, hd, ⟨rfl, rfl, rfl⟩, rfl, rfl, (fun x hx => by simp at hx), List.nodup_nil⟩
    refine wpAny_bind (wpAny_bind (wpAny_bind (wpAny_dictSet_heap (knd := nestedKind X.prog X.w) (by show X.A.units + 8 < cLine; omega) (show (nestedKind X.prog X.w).is s2.heap k b from ⟨nb.is I4.hok rfl, db⟩) dd (fun h' dd' hs => wpAny_pure ?_) (Nat.zero_le _))))
    show wpAny _ _ (forIn [] PUnit.unit _) _ _ _
    rw [List.forIn_nil]
    refine wpAny_pure (wpAny_pure (wpAny_pure (wpAny_pure ?_)))
    obtain ⟨ep, ob⟩ := dx_new (xs := [(k, b, y)]) (by show 1 ≤ sizeLine; decide) hbig (.cons ⟨rfl, rfl, rv⟩ .nil) dd'
    exact ⟨.ref s.heap.objs.size, _, fin hs (ob _), rfl, q2 _ ep n4.n⟩
end
def gD1 (k v : PyData) : Option PyData := if plainD k = true ∨ (isTupD k && deepD k) = true then some (.dict [(k, v)]) else none
section
variable {X : Cx} {F : Fr} {ke ve : Expr} {fk fv : M PyData} {pos : Pos}
theorem pmf_d1 (hu : X.A.units + 64 < cLine) (hk : PM X F ke fk) (hv : PM X F ve fv)
    (hshape : (evalEachOpt [some ke] X.env).zip ((evalEach [ve] X.env).map fun v => do let x ← v; standAt pos; pure x) = [(some (eval ke X.env), do let x ← eval ve X.env; standAt pos; pure x)] := by rfl) : PMF X F (.Dict [some ke] [ve] pos) (op2 gD1 fk fv) := by
  refine PE.imp (pe_d1 hu hk hv hshape) fun σ H Q ⟨V, ρ, E, g0⟩ => ⟨V, ρ, E, GoalF.bind g0 fun x dx H1 V1 ρ1 st1 r1 g1 => ⟨V1, ρ1, st1.env, GoalF.bind g1 fun y dy H2 V2 ρ2 st2 r2 g2 => ?_⟩⟩
  obtain ⟨z, ez, q⟩ := GoalF.opt st2.env g2
  have s := st2.env.sub
  have r1 := r1.mono st2.v
  obtain ⟨hor, rfl⟩ := ite_some ez
  by_cases hp : plainD dx = true
  · obtain ⟨k, rfl, rfl⟩ := plain_key r1 hp
    exact .inl ⟨k, rfl, fun p hpn => q _ _ _ (Ext.hid s hpn) ⟨p, rfl, s.free hpn, hpn, .inl ⟨[(k, y)], upd_same, .cons r2 .nil, by simp⟩⟩⟩
  · obtain ⟨o1, o2⟩ := Bool.and_eq_true_iff.mp (hor.resolve_left hp)
    obtain ⟨k, b, e1, rfl, nb, db⟩ := tup_key s r1 o1 o2
    exact .inr ⟨k, b, rfl, nb, db, fun p ep hpn => q _ _ _ (Ext.hid s hpn) ⟨p, rfl, s.free hpn, hpn, .inr ⟨[(k, b, y)], ep, upd_same, .cons r1 e1 db r2 .nil⟩⟩⟩
theorem pm_d1 (hu : X.A.units + 64 < cLine) (hk : PM X F ke fk) (hv : PM X F ve fv)
    (hshape : (evalEachOpt [some ke] X.env).zip ((evalEach [ve] X.env).map fun v => do let x ← v; standAt pos; pure x) = [(some (eval ke X.env), do let x ← eval ve X.env; standAt pos; pure x)] := by rfl) : PM X F (.Dict [some ke] [ve] pos) (op2 gD1 fk fv) := (pmf_d1 hu hk hv hshape).pm
end
end DL
set_option Elab.async false
set_option linter.all false
set_option maxRecDepth 100000
set_option maxHeartbeats 4000000
namespace DL
open PySem PySem.Spec PyProof.Rows L2
end DL
set_option Elab.async false
set_option linter.all false
set_option maxRecDepth 100000
set_option maxHeartbeats 4000000
namespace DL
open PySem PySem.Spec PyProof.Rows L2
end DL
set_option Elab.async false
set_option linter.all false
set_option maxRecDepth 100000
set_option maxHeartbeats 4000000
namespace DL
open PySem PySem.Spec PyProof.Rows L2
variable [TabCtx]
mutual
def flatT : PyData → Bool
  | .int _ => true
  | .str _ => true
  | .tuple xs => flatTs xs
  | _ => false
def flatTs : List PyData → Bool
  | [] => true
  | x :: xs => flatT x && flatTs xs
end
section
variable {X : Cx} {pins : List (Addr × Obj)} {σ : L2.St} {H V : Hp} {s : Shared}
mutual
theorem rep_reads (I : L2.Inv X pins σ H s) (sv : Same V H) : ∀ (d : PyData) (v : L2.V) (u : Value), Rep X.kw V v d → RelV v u → flatT d = true → ∃ as, Reads s.heap u d as
  | .int i, v, u, r, ru, _ => by
    cases r
    obtain ⟨t, rfl⟩ := ru
    exact ⟨[], .int i t⟩
  | .str x, v, u, r, ru, _ => by
    cases r
    obtain ⟨t, rfl⟩ := ru
    exact ⟨[], .str x t⟩
  | .tuple xs, v, u, r, ru, h => by
    cases r with
    | tup hV rl =>
      obtain ⟨its, rv, ⟨o, ho, hc, n, hd⟩, _⟩ := I.tuple (sqt sv hV)
      cases ru
      obtain ⟨as, ra⟩ := repL_reads I sv xs _ _ rl rv (by rw [flatT] at h; exact h)
      exact ⟨as, .tuple ho hc hd (by simpa using ra)⟩
  | .none, v, u, r, ru, h => by simp [flatT] at h
  | .bool _, v, u, r, ru, h => by simp [flatT] at h
  | .list _, v, u, r, ru, h => by simp [flatT] at h
  | .dict _, v, u, r, ru, h => by simp [flatT] at h
theorem repL_reads (I : L2.Inv X pins σ H s) (sv : Same V H) : ∀ (ds : List PyData) (vs : List L2.V) (us : List Value), RepL X.kw V vs ds → L2.Vals vs us → flatTs ds = true → ∃ as, ReadsAll s.heap us ds as
  | [], vs, us, r, ru, _ => by
    cases r
    cases ru
    exact ⟨[], .nil⟩
  | d :: ds, vs, us, r, ru, h => by
    cases r with
    | cons r1 r2 =>
      cases ru with
      | cons u1 u2 =>
        rw [flatTs, Bool.and_eq_true] at h
        obtain ⟨as, h1⟩ := rep_reads I sv d _ _ r1 u1 h.1
        obtain ⟨bs, h2⟩ := repL_reads I sv ds _ _ r2 u2 h.2
        exact ⟨as ++ bs, .cons h1 h2⟩
end
end
def neT : PyData → Bool
  | .tuple (_ :: _) => true
  | _ => false
def srtOk (ds : List PyData) : Bool := (ds.all fun d => neT d && flatT d && decide (d.depth ≤ 40)) && ds.all fun d => ds.all fun e => PySem.W.alike d e
def srtD (ds : List PyData) : List PyData := ds.mergeSort (PySem.W.dataLe false fun d => d)
section
variable {K : KW} {V : Hp}
theorem each_of : ∀ {xs : List L2.V} {ds : List PyData} {us : List Value}, RepL K V xs ds → L2.Vals xs us → PySem.W.EachIs (fun u d => ∃ v, RelV v u ∧ Rep K V v d) us ds
  | _, _, _, .nil, .nil => .nil
  | _, _, _, .cons r t, .cons h q => .cons ⟨_, h, r⟩ (each_of t q)
theorem of_each : ∀ {ds : List PyData} {us : List Value}, PySem.W.EachIs (fun u d => ∃ v, RelV v u ∧ Rep K V v d) us ds → ∃ ys, L2.Vals ys us ∧ RepL K V ys ds
  | _, _, .nil => ⟨[], .nil, .nil⟩
  | _, _, .cons ⟨v, h, r⟩ t => by
    obtain ⟨ys, h1, h2⟩ := of_each t
    exact ⟨v :: ys, .cons h h1, .cons r h2⟩
theorem srt_alike {ds : List PyData} (h : srtOk ds = true) : PySem.W.AllAlike (ds.map fun d => d) := by
  rw [List.map_id']
  intro d hd e he
  exact List.all_eq_true.mp (List.all_eq_true.mp (Bool.and_eq_true_iff.mp h).2 d hd) e he
theorem srt_each {ds : List PyData} (h : srtOk ds = true) {d : PyData} (hd : d ∈ ds) : (∃ x r, d = .tuple (x :: r)) ∧ flatT d = true ∧ d.depth ≤ 40 := by
  have := List.all_eq_true.mp (Bool.and_eq_true_iff.mp h).1 d hd
  rw [Bool.and_eq_true, Bool.and_eq_true] at this
  refine ⟨?_, this.1.2, of_decide_eq_true this.2⟩
  have h1 := this.1.1
  unfold neT at h1
  split at h1
  · exact ⟨_, _, rfl⟩
  · cases h1
theorem srt_able {ds : List PyData} (h : srtOk ds = true) : PySem.W.Sortable (ds.map fun d => d) := by
  rw [List.map_id']
  exact .inl fun d hd => (srt_each h hd).1
end
def rSortT (K : KW) : List L2.V → Hp → VK → Prop := fun vs H Q => ∃ (a : Addr) (xs : List L2.V) (ds : List PyData) (V : Hp), vs = [L2.V.ref a] ∧ (SqL K.k H a xs ∨ ∃ (ys : List (NestedKey × Addr × L2.V)) (ep : Nat), H a = some (dX K.w a ys ep) ∧ xs = ys.map fun y => L2.V.ref y.2.1) ∧ Same V H ∧ RepL K V xs ds ∧ srtOk ds = true ∧
  ∀ ys p, RepL K V ys (srtD ds) → H p = none → Q (.ref p) (upd H p (.lst ys))
section
variable {X : Cx} {pins : List (Addr × Obj)} {σ : L2.St} {H V : Hp} {s : Shared}
theorem each_reads (I : L2.Inv X pins σ H s) (sv : Same V H) {ds : List PyData} {us : List Value} (h : srtOk ds = true) (e : PySem.W.EachIs (fun u d => ∃ v, RelV v u ∧ Rep X.kw V v d) us ds) {h' : Heap} (kp : ∀ b o, s.heap.get? b = some o → h'.get? b = some o) : PySem.W.EachIs (fun u d => ∃ as, Reads h' u d as) us ds :=
  (PySem.W.each_mem e).mono fun u d ⟨⟨v, r1, r2⟩, hd⟩ => by
    obtain ⟨as, r⟩ := rep_reads I sv d v u r2 r1 (srt_each h hd).2.1
    exact ⟨as, PyProof.Rows.Reads.keeps kp r⟩
end
theorem cr_sortT {X : Cx} (hcalm : X.calm = true) (hu : X.A.units + 64 < cLine) : CallR X (.builtin "sorted") (rSortT X.kw) := by
  intro pins s σ H vs us Q I r h
  obtain ⟨a, xs, ds, V, rfl, hs, sv, rl, ho, q⟩ := h
  obtain ⟨u, rfl, ru⟩ := vals1 r
  obtain rfl : u = Value.ref a := ru
  rcases hs with hs | ⟨ys, ep, hd, rfl⟩
  · obtain ⟨its, rv, hl, hz⟩ := I.list hs
    have e := each_of rl rv
    have hL : ds.length ≤ sizeLine := by rw [← e.length, ← rv.length]; exact hz
    refine PySem.W.sorted_data (R := fun u d => ∃ v, RelV v u ∧ Rep X.kw V v d) (enc := fun d => d) (bs := ds) (vs := its) hl.isList e (each_reads I sv ho e fun _ _ z => z) (srt_alike ho) (srt_able ho) hL (fun d hd => by have := (srt_each ho hd).2.2; show X.A.units + 2 + d.depth < cLine; omega) fun out hlen hE => ?_
    obtain ⟨zs, rz, rl'⟩ := of_each hE
    obtain ⟨n, hn⟩ := sortedAll_at s.heap its out.toArray
    refine ⟨.ref (s.heap.objs.size + 1), upd H (s.heap.objs.size + 1) (.lst zs), I.laid (t' := s.toks) (fun b o z => sortedAll_old z) (Nat.le_succ _) ⟨?_, out, n, rz, hn⟩, rfl, q _ _ rl' (I.hok.fresh (Nat.le_succ _))⟩
    rw [rz.length, hlen]; exact hL
  · obtain ⟨lo, o, es, h1, h2, h3, h4, h5⟩ := xok_at I.hok hd
    have raw : s.heap.DictRaw a es ep := ⟨o, h1, h2, h3⟩
    have hyl : ys.length = ds.length := by have := rl.length; rwa [List.length_map] at this
    have hL : ds.length ≤ sizeLine := by
      obtain ⟨⟨z, _⟩, _, _⟩ := (show ObjOk X.prog X.w H s.heap a (dX X.w a ys ep) from I.hok a _ hd)
      rw [← hyl]; exact z
    refine Calls.call_function_entry kind_sorted plain_sorted entry_sorted (args_sorted1 (.ref a)) ?_
    unfold Builtin.«sorted»
    refine wpAny_bind (m := checkCount "sorted" 1 1 _) (wpAny_pure (wpAny_bind (PySem.W.kdu_collect (PySem.KdlSrc.rawDict lo) (I.ok.hd hcalm) raw (by rw [h4, hyl]; exact hL) fun h0 tk acc k0 hit => ?_)))
    have ea : acc.toList = (ys.map fun y => y.2.1).map Value.ref := by
      refine List.ext_getElem? fun j => ?_
      rw [List.getElem?_map, List.getElem?_map]
      by_cases hj : j < ys.length
      · have hx : ys[j]? = some ys[j] := List.getElem?_eq_getElem hj
        obtain ⟨en, e1, e2⟩ := h5 j ys[j].1 ys[j].2.1 ys[j].2.2 hx
        have hja : j < acc.size := by rw [hit.1, h4]; exact hj
        obtain ⟨hi, e3⟩ := hit.2 j acc[j] (Array.getElem?_eq_getElem hja)
        rw [Array.getElem?_toList, Array.getElem?_eq_getElem hja, hx, e3]
        rw [Array.getElem?_eq_getElem hi] at e1
        rw [Option.some.inj e1, e2]; rfl
      · rw [List.getElem?_eq_none (by rw [Array.length_toList, hit.1, h4]; omega), List.getElem?_eq_none (by omega)]; rfl
    rw [ea]
    have rv : L2.Vals (ys.map fun y => L2.V.ref y.2.1) ((ys.map fun y => y.2.1).map Value.ref) := by
      have := vals_back (us := (ys.map fun y => y.2.1).map Value.ref) fun u hu => by obtain ⟨b, _, rfl⟩ := List.mem_map.mp hu; exact ⟨b, rfl⟩
      rw [List.map_map, List.map_map] at this
      exact this
    generalize (ys.map fun y => y.2.1).map Value.ref = its at rv ⊢
    have e := each_of rl rv
    have hz : its.length ≤ sizeLine := by rw [e.length]; exact hL
    have I0 : L2.Inv X pins σ H { s with heap := h0, toks := tk } := I.kept k0
    show wpAny _ _ _ _ _ { s with heap := h0, toks := tk }
    refine wpAny_bind (wpAny_newList (s := { s with heap := h0, toks := tk }) ?_ hz)
    have hat : (h0.push (seqObj "list" its.toArray 0)).get? h0.objs.size = some (seqObj "list" its.toArray 0) := Heap.get?_push_size _ rfl
    have k1 : ∀ b o, h0.get? b = some o → b ≠ h0.objs.size ∧ (h0.push (seqObj "list" its.toArray 0)).get? b = some o := fun b o q => ⟨Nat.ne_of_lt (Heap.lt_size q), Heap.get?_push_of_some _ q⟩
    have k2 : ∀ b o, s.heap.get? b = some o → (PySem.W.sortingHeap (h0.push (seqObj "list" its.toArray 0)) h0.objs.size its).get? b = some o := fun b o q => PySem.W.sortingHeap_old (k1 b o (k0 b o q)).1 (k1 b o (k0 b o q)).2
    have er := each_reads I sv ho e k2
    show wpAny _ _ _ _ _ { s with heap := h0.push (seqObj "list" its.toArray 0), toks := tk }
    refine wpAny_bind (wpAny_holding (wpAny_call_entry slot_list_sort ⟨_, hat, rfl⟩ entry_list_sort (PySem.W.list_sort_vals (s := { s with heap := h0.push (seqObj "list" its.toArray 0), toks := tk }) (κ := PySem.W.dataKind (PySem.W.sortingHeap (h0.push (seqObj "list" its.toArray 0)) h0.objs.size its) (ds.map fun d => d)) hat (PySem.W.SortsAt.data (s := { s with heap := PySem.W.sortingHeap (h0.push (seqObj "list" its.toArray 0)) h0.objs.size its, toks := tk }) (by rw [List.map_id']; exact er) (srt_alike ho) (srt_able ho) (fun d hd => by rw [List.map_id'] at hd; have := (srt_each ho hd).2.2; show X.A.units + 2 + d.depth < cLine; omega)) hz ⟨_, rfl, ?_⟩) (args_list_sort _)))
    have hE := PySem.W.sortVals_data (h' := PySem.W.sortingHeap (h0.push (seqObj "list" its.toArray 0)) h0.objs.size its) (R := fun u d => ∃ v, RelV v u ∧ Rep X.kw V v d) (enc := fun d => d) false e er (srt_alike ho)
    have hlen : (PySem.W.sortVals (PySem.W.dataKind (PySem.W.sortingHeap (h0.push (seqObj "list" its.toArray 0)) h0.objs.size its) (ds.map fun d => d)) false its its).length = ds.length := by rw [PySem.W.sortVals_length false rfl]; exact e.length
    obtain ⟨zs, rz, rl'⟩ := of_each hE
    obtain ⟨n, hn⟩ := sortedHeap_at (vs := its) (n := 0) (out := (PySem.W.sortVals (PySem.W.dataKind (PySem.W.sortingHeap (h0.push (seqObj "list" its.toArray 0)) h0.objs.size its) (ds.map fun d => d)) false its its).toArray) hat
    refine wpAny_pure ⟨_, rfl, .ref h0.objs.size, upd H h0.objs.size (.lst zs), I0.laid (t' := tk) (fun b o z => ?_) (Nat.le_refl _) ⟨?_, _, n, rz, hn⟩, rfl, q _ _ rl' (I0.hok.fresh (Nat.le_refl _))⟩
    · obtain ⟨z1, z2⟩ := k1 b o z
      rw [sortedHeap_old z1 (by rw [size_push']; exact Nat.lt_succ_of_lt (Heap.lt_size z))]
      exact z2
    · rw [rz.length, hlen]; exact hL
end DL
set_option Elab.async false
set_option linter.all false
set_option maxRecDepth 100000
set_option maxHeartbeats 4000000
namespace DL
open PySem PySem.Spec PyProof.Rows L2
end DL
set_option Elab.async false
set_option linter.all false
set_option maxRecDepth 100000
set_option maxHeartbeats 4000000
namespace DL
open PySem PySem.Spec PyProof.Rows L2
end DL
set_option Elab.async false
set_option linter.all false
set_option maxRecDepth 100000
set_option maxHeartbeats 4000000
namespace DL
open PySem PySem.Spec PyProof.Rows L2
variable [TabCtx]
/-- what holds of a comprehension's new dict at D -/
structure DI (K : KW) (F : Fr) (vs : List Nat) (σ : St) (ρ1 : Rho) (H1 V1 : Hp) (D : Addr) (σ' : St) (ρ' : Rho) (H' V' : Hp) (ys : List (NestedKey × Addr × L2.V)) (ep : Nat) (acc : List (PyData × PyData)) : Prop where
  env : EnvR K F H' V' σ' ρ'
  sv : Same V1 V'
  hD : H' D = some (dX K.w D ys ep)
  rl : RepT K V' ys acc
  vD : V' D = none
  ho : ∀ b, IsOwn σ' ρ' b → IsOwn σ ρ1 b
  kp : ∀ b o, H1 b = some o → nT o → ¬ IsOwn σ ρ1 b → H' b = some o
  sh : ∀ (j : Nat) (d : PyData), j ∉ vs → ρ'[j]? = some (.sh d) → ρ1[j]? = some (.sh d)
  fr : ∀ b, V1 b = none → H1 b ≠ none → V' b = none
  th : ∀ b, H1 b ≠ none → H' b ≠ none
  nD : ¬ IsOwn σ ρ1 D
  h0 : F.H0 D = none
  h1 : H1 D = none
section
variable {K : KW} {F : Fr} {vs : List Nat} {σ : St} {ρ1 : Rho} {H1 V1 : Hp} {D : Addr} {σ' σ2 : St} {ρ' ρ2 : Rho} {H' V' H2 V2 : Hp} {ys : List (NestedKey × Addr × L2.V)} {ep : Nat} {acc : List (PyData × PyData)}
theorem DI.start (E : EnvR K F H1 V1 σ ρ1) (hD : H1 D = none) (ep : Nat) : DI K F vs σ ρ1 H1 V1 D σ ρ1 (upd H1 D (dX K.w D [] ep)) V1 [] ep [] := by
  have L := LI.start (vs := vs) E hD
  exact ⟨E.grow (Ext.hid E.sub hD), L.sv, upd_same, .nil, L.vD, L.ho, fun b o q _ _ => same_new hD b o q, L.sh, L.fr, Same.th (same_new hD), L.nD, L.h0, L.h1⟩
theorem DI.someD (I : DI K F vs σ ρ1 H1 V1 D σ' ρ' H' V' ys ep acc) : H' D ≠ none := by rw [I.hD]; exact fun z => nomatch z
theorem DI.wipe (I : DI K F vs σ ρ1 H1 V1 D σ' ρ' H' V' ys ep acc) (ws : List Nat) (hl : F.ls ∉ ws ∨ F.lent = none) : DI K F vs σ ρ1 H1 V1 D (L2.wipe σ' ws) (wipeR ρ' ws) H' V' ys ep acc :=
  { I with env := I.env.wipe hl, ho := fun b h => I.ho b (isOwn_wipe h), sh := fun j d hj q => I.sh j d hj (wipeR_some (by intro z; cases z) q).1 }
theorem DI.ext (I : DI K F vs σ ρ1 H1 V1 D σ' ρ' H' V' ys ep acc) (x : Ext H' V' H2 V2) : DI K F vs σ ρ1 H1 V1 D σ' ρ' H2 V2 ys ep acc :=
  { I with env := I.env.grow x, sv := I.sv.trans x.v, hD := x.h _ _ I.hD plain_dX.t, rl := I.rl.mono x.v, vD := x.f D I.vD I.someD, kp := fun b o q n m => x.h _ _ (I.kp b o q n m) n, fr := fun b h1 h2 => x.f b (I.fr b h1 h2) (I.th b h2), th := fun b h => x.th b (I.th b h) }
theorem DI.tgt {is : List Nat} (I : DI K F vs σ ρ1 H1 V1 D σ' ρ' H' V' ys ep acc) (E : EnvR K F H2 V2 σ2 ρ2) (x : Ext H' V' H2 V2) (o : ∀ b, IsOwn σ2 ρ2 b → IsOwn σ' ρ' b) (p : ∀ (i : Nat) (d : PyData), i ∉ is → ρ2[i]? = some (.sh d) → ρ'[i]? = some (.sh d)) (his : ∀ i ∈ is, i ∈ vs) :
    DI K F vs σ ρ1 H1 V1 D σ2 ρ2 H2 V2 ys ep acc :=
  { I.ext x with env := E, ho := fun b h => I.ho b (o b h), sh := fun j d hj q => I.sh j d hj (p j d (fun z => hj (his j z)) q) }
theorem DI.stp (I : DI K F vs σ ρ1 H1 V1 D σ' ρ' H' V' ys ep acc) (s : Stp K F σ' ρ' ρ2 H' V' H2 V2) : DI K F vs σ ρ1 H1 V1 D σ' ρ2 H2 V2 ys ep acc where
  env := s.env
  sv := I.sv.trans s.v
  hD := s.keep _ _ I.hD plain_dX.t fun h => I.nD (I.ho D h)
  rl := I.rl.mono s.v
  vD := s.f D I.vD I.someD
  ho := fun b h => I.ho b (s.own b h)
  kp := fun b o q n m => s.keep b o (I.kp b o q n m) n fun h => m (I.ho b h)
  sh := fun j d hj q => I.sh j d hj (s.shs j d q)
  fr := fun b h1 h2 => s.f b (I.fr b h1 h2) (I.th b h2)
  th := fun b h => s.th b (I.th b h)
  nD := I.nD
  h0 := I.h0
  h1 := I.h1
/-- the dict is done -/
theorem DI.done (E : EnvR K F H1 V1 σ ρ1) (I : DI K F vs σ ρ1 H1 V1 D (L2.wipe σ vs) (wipeR ρ' vs) H' V' ys ep acc) (hv : ∀ i ∈ vs, isOw ρ1[i]? = false) :
    Stp K F σ ρ1 (resR ρ1 ρ' vs) H1 V1 H' (upd V' D (dX K.w D ys ep)) ∧ Rep K (upd V' D (dX K.w D ys ep)) (.ref D) (.dict acc) := by
  have nD : ¬ IsOwn (L2.wipe σ vs) (wipeR ρ' vs) D := fun h => I.nD (I.ho D h)
  have Es : EnvR K F H' (upd V' D (dX K.w D ys ep)) (L2.wipe σ vs) (wipeR ρ' vs) := I.env.show I.hD I.vD I.h0 nD
  have svD : Same V' (upd V' D (dX K.w D ys ep)) := same_new I.vD
  refine ⟨⟨E.restore Es (I.sv.trans svD) hv, I.sv.trans svD, I.kp, fun b h => ?_, fun j d q => ?_, fun b h1 h2 => ?_, I.th⟩, .dt upd_same (I.rl.mono svD)⟩
  · obtain ⟨j, d, h1, h2⟩ := h
    have nj := resR_ow hv h1
    rw [resR_out nj] at h1
    exact I.ho b ⟨j, d, by rw [wipeR_out nj]; exact h1, by rw [wipe_outL nj]; exact h2⟩
  · by_cases hj : j ∈ vs
    · by_cases hl : j < ρ'.length
      · rw [resR_in hj hl] at q
        have h' : ρ1.getD j .no = .sh d := Option.some.inj q
        rw [List.getD_eq_getElem?_getD] at h'
        cases q' : ρ1[j]? with
        | none => rw [q'] at h'; cases h'
        | some s =>
          rw [q'] at h'
          have h' : s = .sh d := h'
          rw [h']
      · rw [List.getElem?_eq_none (by rw [resR_len]; omega)] at q; cases q
    · rw [resR_out hj] at q
      exact I.sh j d hj (by rw [wipeR_out hj]; exact q)
  · rw [upd_ne (fun z => h2 (by rw [z]; exact I.h1))]
    exact I.fr b h1 h2
end
end DL
set_option Elab.async false
set_option linter.all false
set_option maxRecDepth 100000
set_option maxHeartbeats 4000000
namespace DL
open PySem PySem.Spec PyProof.Rows L2
end DL
set_option Elab.async false
set_option linter.all false
set_option maxRecDepth 100000
set_option maxHeartbeats 4000000
namespace DL
open PySem PySem.Spec PyProof.Rows L2
end DL
set_option Elab.async false
set_option linter.all false
set_option maxRecDepth 100000
set_option maxHeartbeats 4000000
namespace DL
open PySem PySem.Spec PyProof.Rows L2
variable [TabCtx]
def Fr.at (F : Fr) (σ : St) : Fr := { F with W := fun c _ H => F.W c σ H }
end DL
set_option Elab.async false
set_option linter.all false
set_option maxRecDepth 100000
set_option maxHeartbeats 4000000
namespace DL
open PySem PySem.Spec PyProof.Rows L2
variable [TabCtx]
abbrev mkS (l : List Nat) : Str := ⟨l.toArray⟩
end DL
set_option Elab.async false
set_option linter.all false
set_option maxRecDepth 100000
set_option maxHeartbeats 4000000
namespace HD
open PySem PySem.Spec PyProof.Rows L2 L2H HotX LamX DL
variable [TabCtx]
abbrev IS := Int × Str
def isOf : PyData → Option IS
  | .tuple [.int i, .str x] => some (i, x)
  | _ => none
theorem isOf_some {d : PyData} {k : IS} (h : isOf d = some k) : d = .tuple [.int k.1, .str k.2] := by
  unfold isOf at h
  split at h
  · cases h; rfl
  · cases h
def ltIS (p q : IS) : Bool := if p.1 = q.1 then SrtQ.ltS p.2 q.2 else decide (p.1 < q.1)
def isAt (ks : List IS) (i : Nat) : IS := ks.getD i (0, Str.empty)
def btK (ks : List IS) (i j : Nat) : Bool := ltIS (isAt ks i) (isAt ks j)
def keysM (cb : List PyData → Option PyData) : List PyData → Option (List IS)
  | [] => some []
  | d :: ds => ((cb [d]).bind isOf).bind fun k => (keysM cb ds).map (k :: ·)
def minK (cb : List PyData → Option PyData) (ds : List PyData) : Option PyData := if (ds.all isTupD) = true then (keysM cb ds).bind fun ks => ds[argBest (btK ks) (ds.length - 1)]? else none
theorem keysM_get {cb : List PyData → Option PyData} : ∀ {ds : List PyData} {ks : List IS}, keysM cb ds = some ks → ks.length = ds.length ∧ ∀ (i : Nat) d, ds[i]? = some d → cb [d] = some (.tuple [.int (isAt ks i).1, .str (isAt ks i).2])
  | [], ks, h => by cases h; exact ⟨rfl, fun i d e => by simp at e⟩
  | d :: ds, ks, h => by
    unfold keysM at h
    obtain ⟨k, h1, h2⟩ := Option.bind_eq_some_iff.mp h
    obtain ⟨ks', h3, rfl⟩ := Option.map_eq_some_iff.mp h2
    obtain ⟨dk, h4, h5⟩ := Option.bind_eq_some_iff.mp h1
    obtain ⟨k1, k2⟩ := keysM_get h3
    refine ⟨by simp [k1], fun i d' e => ?_⟩
    cases i with
    | zero =>
      have e : d = d' := Option.some.inj e
      rw [← e, h4, isOf_some h5]; rfl
    | succ i => exact k2 i d' (by simpa using e)
/-- a tuple of a number and a text -/
def IsIS (h : Heap) (b : Addr) (k : IS) : Prop := ∃ t t', IsTup h b #[.int k.1 t, .str k.2 t']
theorem IsIS.uniq {h : Heap} {b : Addr} {k k' : IS} (x : IsIS h b k) (y : IsIS h b k') : k = k' := by
  obtain ⟨t, t', o, ho, _, n, hd⟩ := x
  obtain ⟨u, u', o', ho', _, n', hd'⟩ := y
  rw [ho] at ho'; cases ho'
  rw [hd] at hd'
  injection hd' with e _
  have e := congrArg Array.toList e
  simp at e
  exact Prod.ext e.1.1 e.2.1
theorem isIS_vals {h : Heap} {b : Addr} {k : IS} (x : IsIS h b k) {its : List Value} {xs : List L2.V} (y : IsTup h b its.toArray) (r : Vals xs its) : xs = [.int k.1, .str k.2] := by
  obtain ⟨t, t', o, ho, _, n, hd⟩ := x
  obtain ⟨o', ho', _, n', hd'⟩ := y
  rw [ho] at ho'; cases ho'
  rw [hd] at hd'
  injection hd' with e _
  have e := congrArg Array.toList e
  have e : its = [.int k.1 t, .str k.2 t'] := by simpa using e.symm
  subst e
  obtain ⟨a, b', rfl, ra, rb⟩ : ∃ a b', xs = [a, b'] ∧ RelV a (.int k.1 t) ∧ RelV b' (.str k.2 t') := by
    cases r with
    | cons r1 r2 =>
      cases r2 with
      | cons r2 r3 => cases r3; exact ⟨_, _, rfl, r1, r2⟩
  have e1 : a = .int k.1 := by
    cases a with
    | int i => obtain ⟨t0, q⟩ := (show ∃ t0, Value.int k.1 t = Value.int i t0 from ra); injection q with q; rw [q]
    | str i => obtain ⟨t0, q⟩ := (show ∃ t0, Value.int k.1 t = Value.str i t0 from ra); cases q
    | non => exact absurd (show Value.int k.1 t = Value.none from ra) (fun z => nomatch z)
    | bl v => exact absurd (show Value.int k.1 t = Value.bool v from ra) (fun z => nomatch z)
    | ref v => exact absurd (show Value.int k.1 t = Value.ref v from ra) (fun z => nomatch z)
    | byt v => exact absurd (show ∃ t0, Value.int k.1 t = Value.bytes v t0 from ra) (fun ⟨_, q⟩ => nomatch q)
    | flt v => exact absurd (show ∃ t0, Value.int k.1 t = Value.float v t0 from ra) (fun ⟨_, q⟩ => nomatch q)
    | ty v => exact absurd (show Value.int k.1 t = Value.type v from ra) (fun z => nomatch z)
  have e2 : b' = .str k.2 := by
    cases b' with
    | int i => obtain ⟨t0, q⟩ := (show ∃ t0, Value.str k.2 t' = Value.int i t0 from rb); cases q
    | str i => obtain ⟨t0, q⟩ := (show ∃ t0, Value.str k.2 t' = Value.str i t0 from rb); injection q with q; rw [q]
    | non => exact absurd (show Value.str k.2 t' = Value.none from rb) (fun z => nomatch z)
    | bl v => exact absurd (show Value.str k.2 t' = Value.bool v from rb) (fun z => nomatch z)
    | ref v => exact absurd (show Value.str k.2 t' = Value.ref v from rb) (fun z => nomatch z)
    | byt v => exact absurd (show ∃ t0, Value.str k.2 t' = Value.bytes v t0 from rb) (fun ⟨_, q⟩ => nomatch q)
    | flt v => exact absurd (show ∃ t0, Value.str k.2 t' = Value.float v t0 from rb) (fun ⟨_, q⟩ => nomatch q)
    | ty v => exact absurd (show Value.str k.2 t' = Value.type v from rb) (fun z => nomatch z)
  rw [e1, e2]
open Classical in
noncomputable def satH (h0 : Heap) (ex : List Addr) (h : Heap) (H : Hp) : Hp := fun b =>
  if q : h0.get? b = none ∧ b ∉ ex ∧ ∃ k, IsIS h b k then some (.tup [.int (choose q.2.2).1, .str (choose q.2.2).2]) else H b
section
variable {P : Program} {w : World} {h0 h : Heap} {ex : List Addr} {H : Hp} {b : Addr}
theorem sat_in {k : IS} (h1 : h0.get? b = none) (h2 : b ∉ ex) (h3 : IsIS h b k) : satH h0 ex h H b = some (.tup [.int k.1, .str k.2]) := by
  have q : h0.get? b = none ∧ b ∉ ex ∧ ∃ k, IsIS h b k := ⟨h1, h2, k, h3⟩
  unfold satH
  rw [dif_pos q]
  have := (Classical.choose_spec q.2.2).uniq h3
  rw [this]
theorem sat_out (hn : ∀ k, ¬ IsIS h b k) : satH h0 ex h H b = H b := by
  unfold satH; rw [dif_neg fun q => hn _ q.2.2.choose_spec]
theorem sat_old {o : Obj} (ho : h0.get? b = some o) : satH h0 ex h H b = H b := by
  unfold satH; rw [dif_neg fun q => by rw [ho] at q; cases q.1]
theorem sat_ex (hb : b ∈ ex) : satH h0 ex h H b = H b := by
  unfold satH; rw [dif_neg fun q => q.2.1 hb]
theorem not_is {o : Obj} (ho : h.get? b = some o) (hd : ∀ its n, o.data ≠ .seq its n) : ∀ k, ¬ IsIS h b k := fun k ⟨_, _, o', ho', _, n, hd'⟩ => by
  rw [ho] at ho'; cases ho'
  exact hd _ _ hd'
theorem sat_tup (ok : HOk P w H h) {xs : List L2.V} (e : H b = some (.tup xs)) : satH h0 ex h H b = some (.tup xs) := by
  by_cases q : h0.get? b = none ∧ b ∉ ex ∧ ∃ k, IsIS h b k
  · obtain ⟨q1, q2, k, q3⟩ := q
    rw [sat_in q1 q2 q3]
    obtain ⟨_, its, r, p⟩ := ok b _ e
    rw [isIS_vals q3 p r]
  · unfold satH; rw [dif_neg q]; exact e
theorem ObjOk.sat (ok : HOk P w H h) {a : Addr} {o : HO} (x : ObjOk P w H h a o) : ObjOk P w (satH h0 ex h H) h a o := by
  induction o with
  | dT kvs =>
    obtain ⟨z, y, xs, r, c⟩ := x
    exact ⟨z, y, xs, L2.Paired.mapP r fun p q z => ⟨z.1, sat_tup ok z.2.1, z.2.2⟩, c⟩
  | ins C dx fs =>
    obtain ⟨d, z, ne, e, mA, hns, r⟩ := x
    refine ⟨?_, z, ne, e, mA, hns, r⟩
    obtain ⟨od, es, ep, e2, e3, _⟩ := hns
    rw [sat_out (not_is e2 fun its n q => by rw [e3] at q; cases q)]
    exact d
  | frz ob u ih => exact ⟨x.1, ih x.2⟩
  | lst xs => exact x
  | tup xs => exact x
  | dK kvs => exact x
  | set S n => exact x
  | own y => exact x
  | xd fs => exact x
  | rng lo hi => exact x
  | tbl ps => exact x
  | met f y => exact x
  | ext φ => exact x
theorem HOk.sat (ok : HOk P w H h) : HOk P w (satH h0 ex h H) h := fun a o e => by
  by_cases q : h0.get? a = none ∧ a ∉ ex ∧ ∃ k, IsIS h a k
  · obtain ⟨q1, q2, k, q3⟩ := q
    rw [sat_in q1 q2 q3] at e
    cases e
    obtain ⟨t, t', p⟩ := q3
    exact ⟨by show 2 ≤ sizeLine; decide, [.int k.1 t, .str k.2 t'], .cons ⟨t, rfl⟩ (.cons ⟨t', rfl⟩ .nil), p⟩
  · have e' : H a = some o := by
      have : satH h0 ex h H a = H a := by unfold satH; rw [dif_neg q]
      rw [← this]; exact e
    exact ObjOk.sat ok (ok a o e')
theorem hok_some (ok : HOk P w H h) {o : HO} (e : H b = some o) : ∃ ob, h.get? b = some ob := by
  have lt := (ok b o e)
  have : ∀ {a : Addr} {u : HO}, ObjOk P w H h a u → ∃ ob, h.get? a = some ob := fun {a u} x1 => by
    induction u with
    | lst xs1 => obtain ⟨_, _, _, _, e⟩ := x1; exact ⟨_, e⟩
    | tup xs => obtain ⟨_, _, _, o, e, _⟩ := x1; exact ⟨_, e⟩
    | dK kvs => obtain ⟨_, _, _, _, o, _, _, e, _⟩ := x1; exact ⟨_, e⟩
    | dT kvs => obtain ⟨_, _, _, _, o, _, _, e, _⟩ := x1; exact ⟨_, e⟩
    | set S n => obtain ⟨o, _, _, _, e, _⟩ := x1; exact ⟨_, e⟩
    | ins C1 dx1 fs1 => obtain ⟨_, _, _, e, _⟩ := x1; exact ⟨_, e⟩
    | own y => obtain ⟨_, e⟩ := x1; exact ⟨_, e⟩
    | xd fs => obtain ⟨_, ⟨_, _, _, e, _⟩, _⟩ := x1; exact ⟨_, e⟩
    | rng lo1 hi1 => obtain ⟨_, _, _, e⟩ := x1; exact ⟨_, e⟩
    | frz ob u _ => obtain ⟨e, _⟩ := x1; exact ⟨_, e⟩
    | tbl ps => exact ⟨_, (show h.get? a = some _ from x1)⟩
    | met f y => exact ⟨_, (show h.get? a = some _ from x1)⟩
    | ext φ1 => obtain ⟨_, ⟨_, e⟩, _⟩ := x1; exact ⟨_, e⟩
  exact this lt
end
/-- the state between two calls -/
structure JC (P : Program) (w : World) (outer : List Env) (s0 : Shared) (H V : Hp) (ex : List Addr) (s : Shared) (H' : Hp) : Prop where
  os : s.os = s0.os
  bare : AllBare s.gens
  un : Un (frs outer) [] H H' s0.heap s.heap
  hok : HOk P w H' s.heap
  ext : Ext H V H' V
  out : ∀ b ∈ ex, H' b = none
  sat : ∀ b k, s0.heap.get? b = none → b ∉ ex → IsIS s.heap b k → H' b = some (.tup [.int k.1, .str k.2])
section
variable {P : Program} {w : World} {outer : List Env} {s0 s : Shared} {H V H2 V2 : Hp} {ex : List Addr}
theorem tabs_sat {h0 h : Heap} {T : List (Addr × Str)} (ok : HOk P w H2 h) (t : LamX.Tabs T H2) : LamX.Tabs T (satH h0 ex h H2) := fun p hp => by
  obtain ⟨ps, h1, h2, h3⟩ := t p hp
  refine ⟨ps, ?_, h2, fun pos cv hc => ?_⟩
  · have e : h.get? p.1 = some { cls := .none, data := .fields ps } := ok p.1 _ h1
    rw [sat_out (not_is e fun its n q => nomatch q)]; exact h1
  · obtain ⟨c, e1, e2⟩ := h3 pos cv hc
    refine ⟨c, e1, ?_⟩
    obtain ⟨⟨oc, vs, t, hoc, hdc, _⟩, _, _⟩ := ok c _ e2
    rw [sat_out (not_is hoc fun its n q => by rw [hdc] at q; cases q)]; exact e2
theorem JC.of (ok0 : HOk P w H s0.heap) (sv : Same V H) (hex : ∀ b ∈ ex, s0.heap.get? b = none) (os : s.os = s0.os) (bare : AllBare s.gens) (un : Un (frs outer) [] H H2 s0.heap s.heap) (hok : HOk P w H2 s.heap) (x : Ext H V H2 V2) (out : ∀ b ∈ ex, H2 b = none) : JC P w outer s0 H V ex s (satH s0.heap ex s.heap H2) := by
  have old : ∀ b o, H b = some o → satH s0.heap ex s.heap H2 b = H2 b := fun b o e => by
    obtain ⟨ob, e'⟩ := hok_some ok0 e
    exact sat_old e'
  refine ⟨os, bare, ⟨un.keep, un.slot, fun b o q n hx => ?_, un.there, fun b xs q => ?_, fun b o u q => ?_, fun b ps q => ?_⟩, HOk.sat hok, ⟨fun b o e nt => ?_, Same.refl _, fun b o e => ?_, fun b e _ => e, fun b e => ?_, fun t => tabs_sat hok (x.t t)⟩, fun b hb => ?_, fun b k e1 e2 e3 => sat_in e1 e2 e3⟩
  · rw [sat_old q]; exact un.free b o q n hx
  · rw [old b _ q]; exact un.tups b xs q
  · rw [old b _ q]; exact un.frzs b o u q
  · rw [old b _ q]; exact un.tbls b ps q
  · rw [old b o e]; exact x.h b o e nt
  · have e' := x.s b o (x.v b o e)
    rw [old b _ (sv b o e)]; exact e'
  · cases q : H b with
    | none => exact absurd q e
    | some o => rw [old b o q]; exact x.th b e
  · rw [sat_ex hb]; exact out b hb
theorem JC.moved (ok0 : HOk P w H s0.heap) (sv : Same V H) (hex : ∀ b ∈ ex, s0.heap.get? b = none) {s' : Shared} (j : JC P w outer s0 H V ex s H2) (m : Moved ex (fun a b => b = a) s s') : ∃ H', JC P w outer s0 H V ex s' H' := by
  have kp : ∀ b o, b ∉ ex → s.heap.get? b = some o → s'.heap.get? b = some o := m.heap
  have nex : ∀ b o, s0.heap.get? b = some o → b ∉ ex := fun b o e hb => by rw [hex b hb] at e; cases e
  refine ⟨_, JC.of (V2 := V) (H2 := H2) ok0 sv hex (m.os.trans j.os) (by have := m.gens; rw [this]; exact j.bare) ⟨fun b o q n hb hx => kp b o (nex b o q) (j.un.keep b o q n hb hx), fun b o q n hb hx => ?_, j.un.free, fun b o q hx => ?_, j.un.tups, j.un.frzs, j.un.tbls⟩ (fun a o e => ?_) j.ext j.out⟩
  · obtain ⟨sl, e⟩ := j.un.slot b o q n hb hx
    exact ⟨sl, kp b _ (nex b o q) e⟩
  · obtain ⟨o', e⟩ := j.un.there b o q hx
    exact ⟨o', kp b _ (nex b o q) e⟩
  · refine (j.hok a o e).stay (fun b u hb q => kp b u (fun hm => ?_) q) (fun _ q => q) (fun _ _ q => q)
    have := j.out b hm
    rcases hb with rfl | hb
    · rw [this] at e; cases e
    · rw [this] at hb; cases hb
end
end HD
set_option Elab.async false
set_option linter.all false
set_option maxRecDepth 100000
set_option maxHeartbeats 4000000
namespace HD
open PySem PySem.Spec PyProof.Rows L2 L2H HotX LamX DL
variable [TabCtx]
theorem lt_vals (p q : IS) : lexV [.int p.1, .str p.2] [.int q.1, .str q.2] = some (ltIS p q) := by
  have e : lexV [.int p.1, .str p.2] [.int q.1, .str q.2] = some (if eqV (.int p.1) (.int q.1) = true then (if eqV (.str p.2) (.str q.2) = true then false else SrtQ.ltS p.2 q.2) else decide (p.1 < q.1)) := rfl
  rw [e]
  unfold ltIS
  have e1 : eqV (.int p.1) (.int q.1) = decide (p.1 = q.1) := by show (p.1 == q.1) = _; by_cases z : p.1 = q.1 <;> simp [z]
  have e2 : eqV (.str p.2) (.str q.2) = decide (p.2 = q.2) := by show (p.2 == q.2) = _; by_cases z : p.2 = q.2 <;> simp [z]
  rw [e1, e2]
  by_cases h : p.1 = q.1
  · rw [if_pos h, if_pos (decide_eq_true h)]
    by_cases h2 : p.2 = q.2
    · rw [if_pos (decide_eq_true h2), h2, SrtQ.ltS_irrefl]
    · rw [if_neg (by simpa using h2)]
  · rw [if_neg h, if_neg (by simpa using h)]
theorem rc_is {A : Around} {s : Shared} {b c : Addr} {p q : IS} (hu : A.units < cLine) (x : IsIS s.heap b p) (y : IsIS s.heap c q) : Ob.RcOp .Lt A s (.ref b) (.ref c) (ltIS p q) := by
  obtain ⟨t1, t2, p1⟩ := x
  obtain ⟨u1, u2, p2⟩ := y
  have R := Ob.RcOp.tuples_lt (A := A) (s := s) (e := fun j => eqV (([.int p.1, .str p.2] : List L2.V).getD j .non) (([.int q.1, .str q.2] : List L2.V).getD j .non)) (r := fun j => (fltV (([.int p.1, .str p.2] : List L2.V).getD j .non) (([.int q.1, .str q.2] : List L2.V).getD j .non)).getD false) p1 p2 hu (fun j h1 h2 => by
    have hj : j = 0 ∨ j = 1 := by
      have : j < 2 := h1
      omega
    rcases hj with rfl | rfl
    · exact eqAt_V (show RelV (.int p.1) _ from ⟨t1, rfl⟩) (show RelV (.int q.1) _ from ⟨u1, rfl⟩) rfl rfl
    · exact eqAt_V (show RelV (.str p.2) _ from ⟨t2, rfl⟩) (show RelV (.str q.2) _ from ⟨u2, rfl⟩) rfl rfl) (fun j h1 h2 _ => by
    have hj : j = 0 ∨ j = 1 := by
      have : j < 2 := h1
      omega
    rcases hj with rfl | rfl
    · exact rc_flt (x := .int p.1) (y := .int q.1) ⟨t1, rfl⟩ ⟨u1, rfl⟩ rfl
    · exact rc_flt (x := .str p.2) (y := .str q.2) ⟨t2, rfl⟩ ⟨u2, rfl⟩ rfl)
  have e := lexV_at (e := fun j => eqV (([.int p.1, .str p.2] : List L2.V).getD j .non) (([.int q.1, .str q.2] : List L2.V).getD j .non)) (r := fun j => (fltV (([.int p.1, .str p.2] : List L2.V).getD j .non) (([.int q.1, .str q.2] : List L2.V).getD j .non)).getD false) (z := false) 0 (lt_vals p q) rfl (fun j x y h1 h2 => by
    rw [Nat.zero_add, List.getD_eq_getElem?_getD, List.getD_eq_getElem?_getD, h1, h2]
    exact ⟨rfl, rfl⟩)
  rw [← e]
  exact R
theorem vals_is {h : Heap} {b : Addr} {k : IS} {its : List Value} (r : Vals [.int k.1, .str k.2] its) (p : IsTup h b its.toArray) : IsIS h b k := by
  obtain ⟨u, v, rfl, ⟨t, rfl⟩, ⟨t', rfl⟩⟩ := vals2 r
  exact ⟨t, t', p⟩
theorem vals_refs : ∀ {ys : List L2.V} {us vs : List Value}, (∀ y ∈ ys, ∃ b, y = L2.V.ref b) → Vals ys us → Vals ys vs → us = vs
  | _, _, _, _, .nil, .nil => rfl
  | _, _, _, hy, .cons r t, .cons r' t' => by
    obtain ⟨b, rfl⟩ := hy _ List.mem_cons_self
    cases r; cases r'
    rw [vals_refs (fun y h => hy y (List.mem_cons_of_mem _ h)) t t']
theorem frames_un {h h' base : Heap} {H H' : Hp} {outer : List Env} (u : Un (frs outer) [] H H' h h') (hf : ∀ b ∈ frs outer, H b = none) : ∀ (l : List Env), (∀ b ∈ frs l, b ∈ frs outer) → h.FunFrames base l → h'.FunFrames base l
  | [], _, _ => True.intro
  | env :: r, hs, hl => by
    obtain ⟨hk, ⟨L, o, hfr, hn, ho, hd⟩, hr⟩ := hl
    have hL : L ∈ frs outer := hs L (by unfold frs; rw [List.filterMap_cons, hfr]; exact List.mem_cons_self)
    obtain ⟨sl, e⟩ := u.slot L o ho (hf L hL) hL (by simp)
    exact ⟨hk, ⟨L, _, hfr, hn, e, hd⟩, frames_un u hf r (fun b hb => hs b (by unfold frs; rw [List.filterMap_cons, hfr]; exact List.mem_cons_of_mem _ hb)) hr⟩
section
variable {P : Program} {w : World} {K : PySem.W.Frag} {mg : Str → Option Value} {base : Heap} {A : Around} {outer : List Env} {s : Shared} {H V : Hp} {lvl : Nat} {f a : Addr} {cb : List PyData → Option PyData} {ys : List L2.V} {ds : List PyData} {ks : List IS}
theorem min_run {Q : Value → Shared → Prop} {E : Value → Shared → Prop} (C : CbAt P w K mg base lvl H V f cb) (e0 : Env0 P w K mg base A outer s H) (tv : TabV H V) (sv : Same V H) (hr : Room (lvl + 1) A) (ha : V a = some (.lst ys)) (rd : RepL ⟨K, w⟩ V ys ds) (hk : keysM cb ds = some ks) (hn : ds ≠ []) (hy : ∀ y ∈ ys, ∃ b, y = L2.V.ref b)
    (h : ∀ u s', CE outer P w H s (fun v H' => ys[argBest (btK ks) (ds.length - 1)]? = some v ∧ Ext H V H' V) u s' → Q u s') : wpAny (model P w) A (call (.builtin "min") [.ref a] [(Str.ofString "key", .ref f)]) Q E s := by
  obtain ⟨kl, kget⟩ := keysM_get hk
  have ha' := sv a _ ha
  obtain ⟨z, its, n, r, eo⟩ := e0.hok a _ ha'
  have hl : s.heap.IsList a its.toArray := ⟨_, eo, rfl, n, rfl⟩
  have yl : ys.length = its.length := r.length
  have dl : ys.length = ds.length := rd.length
  refine call_min_walkK (wpAny_pyIter_list hl ?_)
  generalize hJ : s.heap.objs.size = J
  generalize hs2 : ({ s with heap := s.heap.push { cls := .type "list_iterator", data := .fields #[.ref a, .int 0 0] } } : Shared) = s2
  have h2 : s2.heap = s.heap.push { cls := .type "list_iterator", data := .fields #[.ref a, .int 0 0] } := by rw [← hs2]
  generalize hS : s2.heap.objs.size = S
  have la : a < J := hJ ▸ Heap.lt_size eo
  have aJ : a ≠ J := Nat.ne_of_lt la
  have SJ : S = J + 1 := by rw [← hS, h2, Heap.size_push, hJ]
  have lJS : J < S := by rw [SJ]; exact Nat.lt_succ_self J
  have kp2 : ∀ b o, s.heap.get? b = some o → s2.heap.get? b = some o := fun b o e => by rw [h2]; exact Heap.get?_push_of_some _ e
  have itJ : s2.heap.IsListIter J a 0 := by rw [h2, ← hJ]; exact ⟨_, Heap.get?_push_size _ rfl, rfl, rfl⟩
  have lt2 : s2.heap.IsList a its.toArray := ⟨_, kp2 _ _ eo, rfl, n, rfl⟩
  have W := (Walks.list (prog := P) (w := w) (A := A.in1) (show A.in1.handled = none from hr.hd) J a aJ its.toArray).toS
  have hex : ∀ b ∈ [S, J], s.heap.get? b = none := fun b hb => by
    simp only [List.mem_cons, List.not_mem_nil, or_false] at hb
    cases q : s.heap.get? b with
    | none => rfl
    | some o =>
      have lt : b < J := hJ ▸ Heap.lt_size q
      rcases hb with rfl | rfl
      · exact absurd (Nat.lt_trans lt lJS) (Nat.lt_irrefl _)
      · exact absurd lt (Nat.lt_irrefl _)
  have Hex : ∀ b ∈ [S, J], H b = none := fun b hb => by
    cases q : H b with
    | none => rfl
    | some o => obtain ⟨ob, e⟩ := hok_some e0.hok q; rw [hex b hb] at e; cases e
  have j0 : ∃ H', JC P w outer s H V [S, J] s2 H' := by
    refine ⟨_, JC.of (H2 := H) (V2 := V) e0.hok sv hex (by rw [← hs2]) (by rw [← hs2]; exact e0.bare) (Un.kept kp2) (e0.hok.kept kp2) (Ext.refl sv) Hex⟩
  have lz : its.toArray.size = ds.length := by rw [List.size_toArray]; omega
  have hpos : 0 < its.toArray.size := by
    rw [lz]
    exact List.length_pos_iff.mpr hn
  refine ⟨J, [J, a], [J], fun a b => b = a, its.toArray.size, fun i v => its.toArray[i]? = some v, fun i s => s.heap.IsListIter J a i ∧ s.heap.IsList a its.toArray, fun s' => ∃ H', JC P w outer s H V [S, J] s' H',
    fun i k s' => ∃ b, k = .ref b ∧ IsIS s'.heap b (isAt ks i) ∧ ((s.heap.get? b = none ∧ b ∉ [S, J]) ∨ ∃ xs, H b = some (.tup xs)), btK ks, rfl, W, ⟨itJ, lt2⟩, fun b hb => ?_, hpos, ⟨fun s1 s' ⟨H', j⟩ m => j.moved e0.hok sv hex m, fun i k s1 s' ⟨b, e1, e2, e3⟩ m => ?_, fun i v s1 o Q' E' hi hP ⟨H', j⟩ hst hSo hQ => ?_, fun i j ki kj s1 Q' E' _ ⟨b, e1, e2, _⟩ ⟨c, f1, f2, _⟩ hq => ?_⟩, j0, fun v s' hP ⟨H', j⟩ => ?_⟩
  · simp only [List.mem_cons, List.not_mem_nil, or_false] at hb
    rcases hb with rfl | rfl
    · exact lJS
    · exact Nat.lt_trans la lJS
  · have hb : b ∉ [S, J] := by
      rcases e3 with ⟨_, q⟩ | ⟨xs, q⟩
      · exact q
      · exact fun hm => by rw [Hex b hm] at q; cases q
    obtain ⟨t, t', ob, eo', c⟩ := e2
    exact ⟨b, e1, ⟨t, t', ob, m.heap b ob hb eo', c⟩, e3⟩
  · have hi' : i < ys.length := by rw [List.size_toArray] at hi; omega
    have e0' : Env0 P w K mg base A.in1 outer s1 H' := by
      refine ⟨e0.in1.frames, e0.mod, fun b ob e => ?_, ?_, frames_un j.un e0.frf outer (fun _ hb => hb) e0.funs, fun b hb => ?_, j.hok, j.bare⟩
      · have nf : b ∉ frs outer := fun hb => by have := (e0.funs.mem hb).1; rw [e] at this; cases this
        exact ⟨j.un.keep b ob (e0.bs b ob e).1 (e0.bs b ob e).2 nf (by simp), j.un.free b ob (e0.bs b ob e).1 (e0.bs b ob e).2 (by simp)⟩
      · have : s.heap.objs.size ≤ s1.heap.objs.size := by
          have := hst.1
          obtain ⟨oj, ej, _⟩ := this
          exact Nat.le_of_lt (Nat.lt_of_le_of_lt (Nat.le_of_eq hJ) (Heap.lt_size ej))
        exact Nat.le_trans e0.bsz this
      · obtain ⟨_, ob, e, _⟩ := e0.funs.mem hb
        exact j.un.free b ob e (e0.frf b hb) (by simp)
    obtain ⟨yv, hyv⟩ : ∃ yv, ys[i]? = some yv := ⟨_, List.getElem?_eq_getElem hi'⟩
    obtain ⟨u, hu, ru⟩ := r.get hyv
    have uv : u = v := by
      have hP : its.toArray[i]? = some v := hP
      rw [List.getElem?_toArray, hu] at hP; exact Option.some.inj hP
    rw [uv] at ru hu
    obtain ⟨d, hd, rdd⟩ := rd.get' i hyv
    have hcb := kget i d hd
    refine wpAny_call (codeAny_mono (C.run H' V j.ext ⟨j.ext.t tv.1, tv.2⟩ A.in1 outer s1 [v] [yv] [d] _ (fun v' H2 => ∃ V2, Ext H' V H2 V2 ∧ Rep ⟨K, w⟩ V2 v' (.tuple [.int (isAt ks i).1, .str (isAt ks i).2])) hr.in1 e0' (.cons ru .nil) (.cons rdd .nil) hcb fun v' H2 V2 x r => ⟨V2, x, r⟩) fun rr s' hq => ?_)
    cases rr with
    | error e => exact (show False from hq).elim
    | ok fl =>
      cases fl with
      | ret kv =>
        obtain ⟨v', H2, os, bare, un, hok, rv, V2, x2, rep⟩ := (show CE outer P w H' s1 _ kv s' from hq)
        have unT := j.un.trans un
        have exT := j.ext.trans x2
        obtain ⟨oj, ej, cj, dj⟩ := id hst.1
        have jn : H2 J = none := un.free J oj ej (j.out J (by simp)) (by simp)
        have sn : H2 S = none := un.free S o hSo (j.out S (by simp)) (by simp)
        have nfr : ∀ b, s.heap.get? b = none → b ∉ frs outer := fun b e hb => by
          obtain ⟨_, ob, e', _⟩ := e0.funs.mem hb
          rw [e] at e'; cases e'
        have kJ : s'.heap.get? J = some oj := un.keep J oj ej (j.out J (by simp)) (nfr J (hex J (by simp))) (by simp)
        have kS : s'.heap.get? S = some o := un.keep S o hSo (j.out S (by simp)) (nfr S (hex S (by simp))) (by simp)
        have hex2 : ∀ b ∈ [S, J], H2 b = none := fun b hb => by
          simp only [List.mem_cons, List.not_mem_nil, or_false] at hb
          rcases hb with rfl | rfl
          · exact sn
          · exact jn
        have aH2 : H2 a = some (.lst ys) := x2.s a _ (x2.v a _ ha)
        obtain ⟨_, its2, n2, r2, eo2⟩ := hok a _ aH2
        have ei : its2 = its := vals_refs hy r2 r
        obtain ⟨bk, xs, rfl, hbk, rxs⟩ : ∃ bk xs, v' = .ref bk ∧ V2 bk = some (.tup xs) ∧ RepL ⟨K, w⟩ V2 xs [.int (isAt ks i).1, .str (isAt ks i).2] := by
          cases rep with
          | tup e r => exact ⟨_, _, rfl, e, r⟩
        have exs : xs = [.int (isAt ks i).1, .str (isAt ks i).2] := by
          cases rxs with
          | cons a1 a2 =>
            cases a2 with
            | cons a2 a3 =>
              cases a3
              cases a1
              cases a2
              rfl
        subst exs
        have hb2 : H2 bk = some (.tup [.int (isAt ks i).1, .str (isAt ks i).2]) := x2.s bk _ hbk
        obtain ⟨_, itk, rk, pk⟩ := hok bk _ hb2
        cases rv
        refine hQ (.ref bk) s' ⟨_, JC.of (V2 := V2) e0.hok sv hex (os.trans j.os) bare unT hok exT hex2⟩ ⟨⟨oj, kJ, cj, dj⟩, ⟨_, eo2, rfl, n2, by rw [ei]⟩⟩ kS ⟨bk, rfl, vals_is rk pk, ?_⟩ fun j' k' ⟨b, e1, e2, e3⟩ => ⟨b, e1, ?_, e3⟩
        · cases q : s.heap.get? bk with
          | none => exact .inl ⟨rfl, fun hm => by rw [hex2 bk hm] at hb2; cases hb2⟩
          | some o0 =>
            refine .inr ?_
            cases q2 : H bk with
            | none => rw [unT.free bk o0 q q2 (by simp)] at hb2; cases hb2
            | some o' =>
              by_cases nt : ∃ ps, o' = .tbl ps
              · obtain ⟨ps, rfl⟩ := nt
                obtain ⟨more, e⟩ := unT.tbls bk ps q2
                rw [e] at hb2; cases hb2
              · have e := exT.h bk o' q2 (fun ps z => nt ⟨ps, z⟩)
                rw [e] at hb2
                cases hb2
                exact ⟨_, rfl⟩
        · have h' : ∃ xs, H' b = some (.tup xs) := by
            rcases e3 with ⟨q1, q2⟩ | ⟨xs, q⟩
            · exact ⟨_, j.sat b _ q1 q2 e2⟩
            · exact ⟨xs, j.un.tups b xs q⟩
          obtain ⟨xs, h'⟩ := h'
          obtain ⟨_, it1, rr1, pp1⟩ := j.hok b _ h'
          have exs := isIS_vals e2 pp1 rr1
          subst exs
          obtain ⟨_, it2, rr2, pp2⟩ := hok b _ (un.tups b _ h')
          exact vals_is rr2 pp2
      | next => exact False.elim hq
      | brk => exact False.elim hq
      | cont => exact False.elim hq
  · subst e1 f1
    exact rc_is (by have := hr.in1.units0; exact this) e2 f2 _ _ _ _ hq
  · have hP : its.toArray[argBest (btK ks) (its.toArray.size - 1)]? = some v := hP
    rw [List.getElem?_toArray, lz] at hP
    obtain ⟨hlt, _⟩ := List.getElem?_eq_some_iff.mp hP
    obtain ⟨yv, hyv⟩ : ∃ yv, ys[argBest (btK ks) (ds.length - 1)]? = some yv := ⟨_, List.getElem?_eq_getElem (by omega)⟩
    obtain ⟨u, hu, ru⟩ := r.get hyv
    rw [hu] at hP
    cases hP
    exact h _ s' ⟨yv, H', j.os, j.bare, j.un, j.hok, ru, hyv, j.ext⟩
end
end HD
set_option Elab.async false
set_option linter.all false
set_option maxRecDepth 100000
set_option maxHeartbeats 4000000
namespace HD
open PySem PySem.Spec PyProof.Rows L2 L2H HotX LamX DL
variable [TabCtx]
def opMin (is : List Nat) (fb fa : M PyData) : M PyData := M.bind fa fun x ρ => match x with
  | .list ds => (match minK (lamF is fb ρ) ds with
    | some d => .ok (d, ρ)
    | none => .bad)
  | _ => .bad
theorem tup_refs {K : KW} {V : Hp} : ∀ {ys : List L2.V} {ds : List PyData}, RepL K V ys ds → (ds.all isTupD) = true → ∀ y ∈ ys, ∃ b, y = L2.V.ref b
  | _, _, .nil, _ => fun y h => nomatch h
  | _, _, .cons r t, h => fun y hy => by
    rw [List.all_cons, Bool.and_eq_true] at h
    rcases List.mem_cons.mp hy with rfl | hy
    · cases r with
      | tup e _ => exact ⟨_, rfl⟩
      | _ => cases h.1
    · exact tup_refs t h.2 y hy
theorem pm_minK {X : Cx} {F : Fr} {e : Expr} {fa fb : M PyData} {k : Nat} {q : Str} {ps : List Str} {is : List Nat} {params : Arguments} {body : Expr} {scope : Scope} {c Pt : Addr} {p p3 lpos pos : Pos} (hm : X.mg "min" = none) (he : PM X F e fa)
    (LA : LamAt X.K X.mg X.base q X.env.code c Pt) (hq : X.env.qual = q ++ ".<locals>.") (hr : Room (k + 2) X.A) (L : LamP X.env.scope scope ps)
    (hN : is.map (fun i => X.N[i]?) = ps.map some) (hND : X.N.Nodup)
    (hb : ∀ (A : Around) (outer : List Env) (s : Shared) (H : Hp) (f c' : Addr) (H' V : Hp), Room k (A.deeper (lamEnv X scope s.heap.objs.size f c')) → PM (lamN X A outer s H (fun _ _ _ => False) scope f c') (mkF H' V (fun _ _ _ => False)) body fb)
    (hbind : ∀ (q : Str) (cl : List (Str × Addr)) (pm cv ctv : Value) (us : List Value), us.length = ps.length → bindArgs (PySem.W.kla_fn "<lambda>" q params body scope cl pm cv ctv) ⟨us, []⟩ = pure (ps.zip us)) (hfn : ∀ y, X.fn y = true := by intro _; rfl)
    (hdef : defaultsOf params X.env = ([], []) := by rfl) (hg : Gl X "min" := by rfl) (na : starEach [e] X.env = (false, eval e X.env) :: starEach [] X.env := by rfl) :
    PM X F (.Call (.Name "min" p) [e] [⟨some "key", .Lambda params body scope lpos, p3⟩] pos) (opMin is fb fa) := by
  refine ⟨fun pins s σ H Q I ⟨V, ρ, E, g0⟩ => ?_⟩
  have hev : eval (.Call (.Name "min" p) [e] [⟨some "key", .Lambda params body scope lpos, p3⟩] pos) X.env = (eval (.Name "min" p) X.env >>= fun f => callWith pos f [] (backTo pos (starEach [e] X.env)) (backToKw pos (keywordEach [⟨some "key", .Lambda params body scope lpos, p3⟩] X.env))) := rfl
  rw [hev]
  refine wpAny_bind (ld_blt I hg hm PyProof.Rows.boot_min ?_)
  refine callWith_kw (args_cons (thn (he.run pins s σ H (fun v H1 => ∃ V1 ρ1 ds d, EnvR X.kw F H1 V1 σ ρ1 ∧ Rep X.kw V1 v (.list ds) ∧ minK (lamF is fb ρ1) ds = some d ∧ ∀ v H2 V2, Ext H1 V1 H2 V2 → Rep X.kw V2 v d → Q v H2) I ⟨V, ρ, E, Goal.bind g0 fun v dv H1 V1 ρ1 st1 r1 g1 => ?_⟩) fun x s1 ⟨v, H1, I1, rv, V1, ρ1, ds, d, E1, rd, em, hQ⟩ => args_nil ?_) na) ?_ ?_ rfl rfl
  · cases dv with
    | list ds =>
      cases em : minK (lamF is fb ρ1) ds with
      | none => have g1 : Goal _ _ _ _ _ _ _ (match minK (lamF is fb ρ1) ds with | some d => R.ok (d, ρ1) | none => .bad) _ := g1; rw [em] at g1; exact False.elim g1
      | some d =>
        have g1 : Goal _ _ _ _ _ _ _ (match minK (lamF is fb ρ1) ds with | some d => R.ok (d, ρ1) | none => .bad) _ := g1
        rw [em] at g1
        exact ⟨V1, ρ1, ds, d, st1.env, r1, em, fun v H2 V2 x r => g1 v H2 V2 (st1.env.step x) r⟩
    | _ => exact False.elim g1
  · cases rd with
    | @lst a ys _ ha rl =>
      obtain rfl : x = Value.ref a := rv
      unfold minK at em
      split at em
      rotate_left
      · cases em
      rename_i hall
      obtain ⟨ks, hk, hd⟩ := Option.bind_eq_some_iff.mp em
      have hy := tup_refs rl hall
      have hne : ds ≠ [] := fun z => by subst z; simp at hd
      refine kws_cons (lam_makeT LA.tab LA.code I1 (by rw [hq]; exact LA.mem) (by rw [hq]; exact LA.uniq) E1.tabs.1 hdef (L.has I1.ok) fun f c' pm' ctv H2 s2 I2 eN hfn' hfr hco hf sz => kws_nil ?_)
      have I3 := inv_track (o := fzO f (PySem.W.kla_obj "<lambda>" (X.env.qual ++ "<lambda>") params body scope (cloFrom X.env.cells scope.names []) pm' c' ctv)) I2 hfn' (Nat.le_trans I1.sz sz) (fun z => Nat.lt_irrefl _ (Nat.lt_of_lt_of_le (show f < s1.heap.objs.size from by rw [z]; exact I1.lt) sz)) (fun y c e z => by
        obtain ⟨v, o, ho, _⟩ := I1.cell y c e
        exact Nat.lt_irrefl _ (Nat.lt_of_lt_of_le (show f < s1.heap.objs.size from by rw [← z]; exact Heap.lt_size ho) sz)) (fun q hq z => Nat.lt_irrefl _ (Nat.lt_of_lt_of_le (show f < s1.heap.objs.size from by rw [← z]; exact Heap.lt_size (I1.pin q hq).1) sz)) (fzO_ok hf)
      have hvP : V1 Pt = none := E1.tabs.2 _ LA.mem
      have x2 : Ext H1 V1 (upd H2 f (fzO f (PySem.W.kla_obj "<lambda>" (X.env.qual ++ "<lambda>") params body scope (cloFrom X.env.cells scope.names []) pm' c' ctv))) V1 := (eN V1 E1.sub hvP).trans (Ext.hid (eN V1 E1.sub hvP).s hfn')
      have E2 := E1.grow x2
      have hf3 : upd H2 f (fzO f (PySem.W.kla_obj "<lambda>" (X.env.qual ++ "<lambda>") params body scope (cloFrom X.env.cells scope.names []) pm' c' ctv)) f = some (fzO f _) := upd_same
      have hc3 : upd H2 f (fzO f (PySem.W.kla_obj "<lambda>" (X.env.qual ++ "<lambda>") params body scope (cloFrom X.env.cells scope.names []) pm' c' ctv)) c' = some (CodeO c' (X.env.qual ++ "<lambda>")) := by rw [upd_ne (ne_of_none hco hfn')]; exact hco
      generalize hH3 : upd H2 f (fzO f (PySem.W.kla_obj "<lambda>" (X.env.qual ++ "<lambda>") params body scope (cloFrom X.env.cells scope.names []) pm' c' ctv)) = H3 at I3 x2 E2 hf3 hc3
      have cn := cs_none I3 L
      have cz := cs_fz I3 L
      have cw := cs_new I3 L hfn
      have C := cb_lam I3 E2 L hf3 hc3 hbind hN hND hb
      have e0 := I3.env0
      have nS : ∀ b, b ∉ csOf X scope → H3 b = none → Ov (csOf X scope) (fzG s2.heap) H3 b = none := fun b hb e => by rw [ov_out hb]; exact e
      have e0f : Env0 X.prog X.w X.K X.mg X.base X.A X.stack s2 (Ov (csOf X scope) (fzG s2.heap) H3) := by
        refine ⟨e0.frames, e0.mod, fun b o e => ⟨(e0.bs b o e).1, nS b (fun z => ?_) (e0.bs b o e).2⟩, e0.bsz, e0.funs, fun b hb => nS b (fun z => (cw b z).2 hb) (e0.frf b hb), hok_ov e0.hok (fun b hb => .inl (cn b hb)) (fun b hb => .inr (cz b hb)), e0.bare⟩
        exact Nat.lt_irrefl _ (Nat.lt_of_lt_of_le (Heap.lt_size e) (Nat.le_trans I3.ok.bsz (cw b z).1))
      have sv : Same V1 (Ov (csOf X scope) (fzG s2.heap) H3) := fun b o e => by
        have e' := E2.sub b o e
        have hb : b ∉ csOf X scope := fun hb => by rw [cn b hb] at e'; cases e'
        rw [ov_out hb]; exact e'
      have tv : TabV (Ov (csOf X scope) (fzG s2.heap) H3) V1 := ⟨tabs_out E2.tabs.1 fun b hb => .inl (cn b hb), E2.tabs.2⟩
      refine min_run C e0f tv sv hr ha rl hk hne hy fun u s' ce => ?_
      refine I3.after (ce_thaw cn cz (fun v H' ⟨hv, x⟩ => ?_) ce)
      obtain ⟨d', hd', rd'⟩ := rl.get' _ hv
      rw [hd] at hd'
      cases hd'
      exact hQ v _ V1 (x2.trans (ext_thaw x E2.sub cn (fun b hb => by obtain ⟨o, g, _⟩ := cz b hb; exact ⟨o, g⟩))) rd'
  · rw [na]; rfl
  · rw [na]; rfl
end HD
set_option Elab.async false
set_option linter.all false
set_option maxRecDepth 100000
set_option maxHeartbeats 4000000
namespace DL
open PySem PySem.Spec PyProof.Rows L2
variable [TabCtx]
theorem RepL.erase {K : KW} {V : Hp} : ∀ {vs : List L2.V} {ds : List PyData} (k : Nat), RepL K V vs ds → RepL K V (vs.eraseIdx k) (ds.eraseIdx k)
  | _, _, _, .nil => .nil
  | _, _, 0, .cons _ t => t
  | _, _, k + 1, .cons r t => .cons r (RepL.erase k t)
def rRemD (K : PySem.W.Frag) : L2.V → List L2.V → Hp → VK → Prop := fun x xs H Q => ∃ (a : Addr) (ys : List L2.V) (y : L2.V) (d : PyData) (ds : List PyData) (j : Nat), x = .ref a ∧ xs = [y] ∧ H a = some (.lst ys) ∧ DpAll K H ys ds ∧ Dp K H y d ∧
  PyData.canLayAll0 ds = true ∧ SeqAt.shaped d = true ∧ findD d ds = some j ∧ Q .non (upd H a (.lst (ys.eraseIdx j)))
theorem mt_remD {X : Cx} (hu : X.A.units + 65 < cLine) : MtR X "list.remove" (rRemD X.K) := by
  intro pins s σ H x xs v us Q I rx rxs h
  obtain ⟨a, ys, y, d, ds, j, rfl, rfl, hH, hl1, hy, sl, sd, hf, q⟩ := h
  cases rx
  obtain ⟨uy1, rfl, ry⟩ := vals1 rxs
  obtain ⟨bs1, r1⟩ := Dp.reads I d y uy1 hy ry
  have room : X.A.units + 1 + min (PyData.depthAll ds) d.depth < cLine := room_in_shaped sd hu
  obtain ⟨z, its1, n, r, hlen, eo⟩ := I.lstM hH
  obtain ⟨as, h4⟩ := Dp.readsAll I ds _ its1 hl1 r
  have hn : its1.length = ds.length := SeqAt.ReadsAll.length ds its1 as h4
  have hmap1 : its1.map (SeqAt.readOf s.heap) = ds := SeqAt.readsAll_map ds its1 as sl h4
  obtain ⟨⟨w, w1, w2⟩, w3⟩ := findD_spec hf
  obtain ⟨hjd1, _⟩ := List.getElem?_eq_some_iff.mp w1
  have hj : j < its1.toArray.size := by rw [List.size_toArray]; omega
  have at_ : ∀ (m : Nat) (hm : m < its1.toArray.size) (zq : PyData), ds[m]? = some zq → SeqAt.readOf s.heap its1.toArray[m] = zq := fun m hm zq hzq => by
    have hml : m < its1.length := by rw [List.size_toArray] at hm; exact hm
    rw [← hmap1, List.getElem?_map, List.getElem?_eq_getElem hml] at hzq
    exact Option.some.inj hzq
  refine call_meets PySem.F.slot_list_remove ⟨_, eo, rfl⟩ PySem.F.entry_list_remove (PySem.F.args_list_remove_2 _ _) (PySem.SeqAt.list_removeAt a its1.toArray n none #[] uy1 (fun u => PyData.eqv (SeqAt.readOf s.heap u) d) j hj ?_ ?_ (by rw [List.size_toArray]; omega)) ⟨eo, SeqAt.items_eqAt (vs := its1.toArray) (show ReadsAll s.heap its1.toArray.toList ds as from h4) r1 sl (SeqAt.canLay_of_shaped sd) room, ?_⟩
  · show PyData.eqv (SeqAt.readOf s.heap its1.toArray[j]) d = true
    rw [at_ j hj w w1]; exact w2
  · intro m hm hmj
    have hmd : m < ds.length := by rw [List.size_toArray] at hm; omega
    show PyData.eqv (SeqAt.readOf s.heap its1.toArray[m]) d = false
    rw [at_ m hm _ (List.getElem?_eq_getElem hmd)]
    exact w3 m _ hmj (List.getElem?_eq_getElem hmd)
  · refine ⟨.non, _, I.lset (its' := its1.eraseIdx j) hH eo ?_ (r.eraseIdx j) ?_, rfl, q⟩
    · show its1.toArray.eraseIdxIfInBounds j = (its1.eraseIdx j).toArray
      rw [List.eraseIdxIfInBounds_toArray]
    · have := List.length_eraseIdx_le ys j
      omega
def remO (i : Nat) (a : M PyData) : SM := fun ρ => match ρ[i]? with
  | some (.ow (.list _)) => exO a (fun d ρ => match ρ[i]? with
    | some (.ow (.list ds)) => if (SeqAt.shaped d && PyData.canLayAll0 ds) = true then (match findD d ds with
      | some j => .nx (ρ.set i (.ow (.list (ds.eraseIdx j))))
      | none => .bad) else .bad
    | _ => .bad) ρ
  | _ => .bad
section
variable {X : Cx} {F : Fr} {e k : Expr} {es : List Expr} {fa fk : M PyData} {fs : M (List PyData)} {pos : Pos}
theorem pms_rem (i : Nat) {x : Str} {px apos cpos : Pos} (hu : X.A.units + 65 < cLine) (ha : PM X F e fa) (hN : X.N[i]? = some x := by rfl) (hv : Vis X.env.scope x := by first | exact Or.inl rfl | exact Or.inr (Or.inl rfl) | exact Or.inr (Or.inr rfl)) (hd : (x == ("__debug__" : Str)) = false := by decide) (hcd : (x == ("__classdict__" : Str)) = false := by decide)
    (hbase : attributeBase (.Name x px) "remove" X.env (eval (.Name x px) X.env) = eval (.Name x px) X.env := by rfl)
    (hfew : ((backTo cpos (starEach [e] X.env)).all (fun x => !x.1) && (backToKw cpos (keywordEach [] X.env)).all (fun x => x.1.isSome) && decide ([e].length + ([] : List Keyword).length + (if ([] : List Keyword).isEmpty then 0 else 1) < 30)) = true := by rfl)
    (hline : (apos.endLine == cpos.line) = true := by rfl) (hs : starEach [e] X.env = (false, eval e X.env) :: starEach [] X.env := by rfl) (hplain : (backTo cpos (starEach [] X.env)).any (·.1) = false := by rfl)
    (hsw : swapsWith (.Call (.Attribute (.Name x px) "remove" apos) [e] [] cpos) none pos.line X.env = pure false := by rfl) :
    PMS X F (.Expr (.Call (.Attribute (.Name x px) "remove" apos) [e] [] cpos) pos) (remO i fa) := by
  refine PS.imp (ps_expr (pe_bm PySem.F.plainAttrs_list PySem.F.slot_list_remove PySem.F.type_list_remove (mt_remD hu) (pe_var hN hv hd hcd) (pa_cons ha pa_nil hs) hbase hfew hline hs hplain) hsw) fun D σ H ⟨V, ρ, E, g⟩ => ?_
  unfold remO at g
  cases eo : ρ[i]? with
  | none => rw [eo] at g; exact False.elim g
  | some s =>
    rw [eo] at g
    cases s with
    | no => exact False.elim g
    | sh d => exact False.elim g
    | ow d =>
      cases d with
      | list ds0 =>
        obtain ⟨a, h1, h2, h3, xs0, h4, h5⟩ := E.ow i _ eo
        refine ⟨.ref a, h1, .inl ⟨rfl, xs0, .inl (.inl h4)⟩, V, ρ, E, Goal.ex g fun v d H1 V1 ρ1 st1 r1 g1 => ?_⟩
        cases eo1 : ρ1[i]? with
        | none => rw [eo1] at g1; exact False.elim g1
        | some s1 =>
          rw [eo1] at g1
          cases s1 with
          | no => exact False.elim g1
          | sh d => exact False.elim g1
          | ow d1 =>
            cases d1 with
            | list ds =>
              have g1 : GoalS X.kw F V1 (if (SeqAt.shaped d && PyData.canLayAll0 ds) = true then (match findD d ds with
                | some j => .nx (ρ1.set i (.ow (.list (ds.eraseIdx j))))
                | none => .bad) else .bad) D := g1
              obtain ⟨a', q1, q2, q3, xs, q4, q5⟩ := st1.env.ow i _ eo1
              have ea : a' = a := by rw [h1] at q1; exact (L2.V.ref.inj (Option.some.inj (Option.some.inj q1))).symm
              subst ea
              by_cases hlm : (SeqAt.shaped d && PyData.canLayAll0 ds) = true
              · rw [if_pos hlm] at g1
                obtain ⟨l1, l2⟩ := Bool.and_eq_true_iff.mp hlm
                cases ef : findD d ds with
                | none => rw [ef] at g1; exact False.elim g1
                | some j =>
                  rw [ef] at g1
                  have sv := st1.env.sub
                  refine ⟨a', xs, v, d, ds, j, rfl, rfl, q4, RepL.dp (q5.mono sv) l2, Rep.dp (r1.mono sv) (SeqAt.canLay_of_shaped l1), l2, l1, ef, ?_⟩
                  exact g1 _ _ _ (st1.env.updOw eo1 q1 ⟨_, upd_same, q5.erase j⟩) (Same.refl _)
              · rw [if_neg hlm] at g1
                exact False.elim g1
            | _ => exact False.elim g1
      | _ => exact False.elim g
end
end DL
set_option Elab.async false
set_option linter.all false
set_option maxRecDepth 100000
set_option maxHeartbeats 4000000
namespace SrtQ
open PySem SrtO PySem.Spec PyProof.Rows
theorem swo_ltS : Swo ltS := ⟨fun x y h => ltS_asym h, fun x y z h1 h2 => by
  cases q : ltS z x with
  | false => rfl
  | true =>
    exfalso
    cases h3 : ltS x y with
    | true => rw [ltS_trans q h3] at h2; cases h2
    | false =>
      have e := ltS_tri h3 h1
      subst e
      rw [q] at h2; cases h2⟩
theorem rising_srtd : ∀ (l : List Str) (p : Str), risingS p l = true → (∀ x ∈ l, ltS x p = false) ∧ SrtO.Srtd ltS l
  | [], p, _ => ⟨(fun x h => nomatch h), List.Pairwise.nil⟩
  | x :: r, p, h => by
    have h : (!ltCps x.cps.toList p.cps.toList && risingS x r) = true := h
    rw [ltCps_eq] at h
    have h : (!ltS x p && risingS x r) = true := h
    rw [Bool.and_eq_true] at h
    obtain ⟨h1, h2⟩ := rising_srtd r x h.2
    have hx : ltS x p = false := by have := h.1; cases e : ltS x p; rfl; rw [e] at this; cases this
    refine ⟨fun y hy => ?_, List.pairwise_cons.mpr ⟨fun y hy => h1 y hy, h2⟩⟩
    rcases List.mem_cons.mp hy with rfl | hy
    · exact hx
    · exact swo_ltS.tr p x y hx (h1 y hy)
theorem sorted_isort {ks ys : List Str} (hp : ys.Perm ks) (h : sortedS ys = true) : ys = isort ltS ks := by
  refine perm_uniq swo_ltS (fun x y h1 h2 => ltS_tri h1 h2) ?_ (isort_srtd swo_ltS ks) (hp.trans (isort_perm ks).symm)
  cases ys with
  | nil => exact List.Pairwise.nil
  | cons y ys =>
    obtain ⟨h1, h2⟩ := rising_srtd ys y h
    exact List.pairwise_cons.mpr ⟨h1, h2⟩
end SrtQ
namespace DL
open PySem PySem.Spec PyProof.Rows L2
variable [TabCtx]
def txtsD : List PyData → Option (List Str)
  | [] => some []
  | .str x :: ds => (txtsD ds).map (x :: ·)
  | _ :: _ => none
theorem txtsD_map : ∀ xs : List Str, txtsD (xs.map PyData.str) = some xs
  | [] => rfl
  | x :: xs => by rw [List.map_cons, txtsD, txtsD_map xs]; rfl
def gSortS : List PyData → Option PyData
  | [.dict ps] => (txtsD (ps.map (·.1))).bind fun ks => if ks.length < 64 then some (.list ((SrtQ.isort SrtQ.ltS ks).map .str)) else none
  | _ => none
def rSortKS (K : KW) : List L2.V → Hp → VK → Prop := fun xs H Q => ∃ (a : Addr) (ks : List Str), xs = [.ref a] ∧ ((∃ kvs : List (Key × L2.V), H a = some (.dK kvs) ∧ kvs.map (·.1) = ks.map Sum.inr) ∨ (ks = [] ∧ ∃ ep, H a = some (dX K.w a [] ep))) ∧ ks.length < 64 ∧ ∀ p, H p = none → Q (.ref p) (upd H p (.lst ((SrtQ.isort SrtQ.ltS ks).map L2.V.str)))
theorem cr_sortS {X : Cx} (hcalm : X.calm = true) (hu : X.A.units + 64 < cLine) : CallR X (.builtin "sorted") (rSortKS X.kw) := by
  intro pins s σ H vs us Q I r h
  obtain ⟨a, ks, rfl, hd, hl, q⟩ := h
  rcases hd with ⟨kvs, e, ek⟩ | ⟨rfl, ep, e⟩
  · exact call_sortedD hcalm pins s σ H _ us Q I r ⟨a, kvs, ks, rfl, .inl e, ek, hl, fun ys p hp hs hn => by
      rw [SrtQ.sorted_isort hp hs]; exact q p hn⟩
  · exact cr_sortT hcalm hu pins s σ H _ us Q I r ⟨a, [], [], fun _ => none, rfl, .inr ⟨[], ep, e, rfl⟩, (fun b o z => nomatch z), .nil, rfl, fun ys p rl hn => by
      have e0 : srtD [] = [] := by unfold srtD; simp
      rw [e0] at rl
      cases rl
      exact q p hn⟩
theorem repK_txts {K : KW} {V : Hp} : ∀ {kvs : List (Key × L2.V)} {ps : List (PyData × PyData)} {ks : List Str}, RepK K V kvs ps → txtsD (ps.map (·.1)) = some ks → kvs.map (·.1) = ks.map Sum.inr
  | _, _, _, .nil, h => by cases h; rfl
  | _, _, _, .cons (k := k) r t, h => by
    cases k with
    | inl i => cases h
    | inr x =>
      obtain ⟨zs, h1, rfl⟩ := Option.map_eq_some_iff.mp (show Option.map (x :: ·) (txtsD _) = some _ from h)
      rw [List.map_cons, List.map_cons, repK_txts t h1]
theorem repT_txts {K : KW} {V : Hp} {xs : List (NestedKey × Addr × L2.V)} {ps : List (PyData × PyData)} {ks : List Str} (r : RepT K V xs ps) (h : txtsD (ps.map (·.1)) = some ks) : xs = [] ∧ ks = [] := by
  cases r with
  | nil => cases h; exact ⟨rfl, rfl⟩
  | cons rk n z rv t =>
    exfalso
    cases rk <;> cases h
theorem repL_txts {K : KW} {V : Hp} : ∀ ys : List Str, RepL K V (ys.map L2.V.str) (ys.map PyData.str)
  | [] => .nil
  | y :: ys => .cons (.str y) (repL_txts ys)
theorem cd_sortS {K : KW} : CallD K (rSortKS K) gSortS := by
  intro xs ds z H V Q s r e q
  cases r with
  | nil => cases e
  | cons r1 r2 =>
    cases r2 with
    | cons _ _ => cases r1 <;> cases e
    | nil =>
      cases r1 with
      | @dk a kvs ps h rk n =>
        obtain ⟨ks, e1, e2⟩ := Option.bind_eq_some_iff.mp (show (txtsD (ps.map (·.1))).bind _ = some z from e)
        obtain ⟨hl, rfl⟩ := ite_some e2
        exact ⟨a, ks, rfl, .inl ⟨kvs, s _ _ h, repK_txts rk e1⟩, hl, fun p hp => q _ _ _ (Ext.new s hp) (new_lst s hp (repL_txts _))⟩
      | @dt a xs ep ps h rt =>
        obtain ⟨ks, e1, e2⟩ := Option.bind_eq_some_iff.mp (show (txtsD (ps.map (·.1))).bind _ = some z from e)
        obtain ⟨hl, rfl⟩ := ite_some e2
        obtain ⟨rfl, rfl⟩ := repT_txts rt e1
        exact ⟨a, [], rfl, .inr ⟨rfl, ep, s _ _ h⟩, hl, fun p hp => q _ _ _ (Ext.new s hp) (new_lst s hp .nil)⟩
      | _ => cases e
end DL
set_option Elab.async false
set_option linter.all false
set_option maxRecDepth 100000
set_option maxHeartbeats 4000000
namespace DL
open PySem PySem.Spec PyProof.Rows L2
variable [TabCtx]
theorem brwF_of {K : KW} {F : Fr} {fa : M PyData} (b : Bool) {σ : St} {H : Hp} {Q : VK} (h : tMF K F (brwF b fa) σ H Q) : tMF K F fa σ H Q := by
  obtain ⟨V, ρ, E, g⟩ := h
  refine ⟨shown (Let σ ρ b) V H, demR b ρ, E.dem b, ?_⟩
  unfold brwF at g
  cases ef : fa (demR b ρ) with
  | exc c => rw [ef] at g; exact g
  | bad => rw [ef] at g; exact g
  | ok pr =>
    obtain ⟨d, ρ'⟩ := pr
    rw [ef] at g
    have g : GoalF K F σ ρ H V (if immC d = true then (match backR b ρ ρ' with
      | some ρ'' => .ok (d, ρ'')
      | none => .bad) else .bad) Q := g
    by_cases hi : immC d = true
    · rw [if_pos hi] at g
      intro v H' V' st hv
      cases eb : backR b ρ ρ' with
      | none => rw [eb] at g; exact False.elim g
      | some ρ'' =>
        rw [eb] at g
        obtain ⟨s1, s2⟩ := E.back st eb
        obtain ⟨a, rfl, w1, w2, w3⟩ := hv
        refine g _ H' _ s1 ⟨a, rfl, ?_, w2, ?_⟩
        · by_cases hL : Let σ ρ b a
          · exact veiled_p hL
          · rw [veiled_n hL]; exact w1
        · cases d with
          | list ds => obtain ⟨vs, e, r⟩ := w3; exact ⟨vs, e, r.imm s2 hi⟩
          | _ => cases hi
    · rw [if_neg hi] at g
      exact False.elim g
theorem mf_of {K : KW} {F : Fr} {fa : M PyData} {σ : St} {H : Hp} {Q : VK} (h : tM K F fa σ H Q) : tMF K F fa σ H Q := by
  obtain ⟨V, ρ, E, g⟩ := h
  refine ⟨V, ρ, E, ?_⟩
  cases ef : fa ρ with
  | exc c => rw [ef] at g; exact g
  | bad => rw [ef] at g; exact g
  | ok pr =>
    obtain ⟨d, ρ'⟩ := pr
    rw [ef] at g
    intro v H' V' st hv
    obtain ⟨a, rfl, h1, h2, h3⟩ := hv
    obtain ⟨u, q1, q2⟩ := h3.show h1
    exact g _ H' _ (st.show E h2 h1 q1) q2
theorem pms_setLcB {X : Cx} {F : Fr} (b : Bool) (i : Nat) {y : Str} {py spos : Pos} {elt tg iter : Expr} {ifs : List Expr} {scope : Scope} {pos : Pos} {fi : M (List PyData)} {is : List Nat} {g : GM} {ft : M Bool} {fe : M PyData} (own : List (Str × Nat)) (hi : PMI X F tg iter fi) (ok : BlkOk X.N X.env.scope scope own) (hN : X.N.Nodup)
    (hg : Blk X scope fun Y => PMG Y F.nox tg is g) (ht : Blk X scope fun Y => PMTs Y F.nox ifs ft) (he : Blk X scope fun Y => PM Y F.nox elt fe)
    (hy : X.N[i]? = some y := by rfl) (hyl : X.env.scope.names.lookup y = some .local := by rfl)
    (hsw : swapsWith (.ListComp elt [⟨tg, iter, ifs, 0⟩] scope pos) (some (.Name y py)) spos.line X.env = pure true := by exact sw_true rfl rfl rfl (by decide +kernel))
    (his : ∀ i ∈ is, i ∈ own.map (·.2) := by decide) (hl : F.ls ∉ own.map (·.2) ∨ F.lent = none := by first | exact Or.inr rfl | exact Or.inl (nm_ls rfl)) (hli : i ≠ F.ls ∨ F.lent = none := by first | exact Or.inr rfl | exact Or.inl (ne_ls rfl)) (hc : X.calm = true := by rfl) (hs : ∀ x, foldedSetIterable iter X.env x = pure x := by intro _; rfl) :
    PMS X F (.Assign [.Name y py] (.ListComp elt [⟨tg, iter, ifs, 0⟩] scope pos) spos) (asgO (brwF b (lcM (own.map (·.2)) fi g ft fe)) (setS i)) :=
  PS.imp (ps_setLc (g := tGM X.kw F.nox is g) (tt := tMT X.kw F.nox ft) (te := tM X.kw F.nox fe) hc hN hy hyl hsw hi ok hg ht he hs) fun _ _ _ h => lcF_of his hl (brwF_of b (mf_of (asg_of hli h)))
end DL
set_option Elab.async false
set_option linter.all false
set_option maxRecDepth 100000
set_option maxHeartbeats 4000000
namespace G
open PySem PySem.Spec PyProof.Rows L2 DL
def b_is_whole : SM := (retO (andV (isi .int (vN 0)) (andV (notV (isi .bool (vN 0))) (chain gLe gLe (vN 1) (vN 0) (vN 2)))))
def m_is_whole : List PyData → R PyData := fnRun 3 3 b_is_whole
def b_is_word : SM := (retO (andV (isi .str (vN 0)) (andV (chain gLe gLe (cD (.int 1)) (opA gLen (aC (vN 0) aN)) (cD (.int 8))) (opA gAll (aC (lcM [1] (seqI (vN 0)) (setS 1) yesT (op2 gIn (vN 1) (cD (.str "abcdefghijklmnopqrstuvwxyz")))) aN)))))
def m_is_word : List PyData → R PyData := fnRun 1 2 b_is_word
def b_rise : SM := (retO (opA gAll (aC (lcM [1, 2] (opI gZip (aC (vN 0) (aC (slc (vN 0) (prt (cD (.int 1))) noPrt) aN))) (unT (gsC (setS 1) (gsC (setS 2) gsN))) yesT (op2 gLt (vN 1) (vN 2))) aN)))
def m_rise : List PyData → R PyData := fnRun 1 3 b_rise
def b_are_lines : SM := (retO (andV (isi .tuple (vN 0)) (andV (op2 gEq (opA gLen (aC (vN 0) aN)) (vN 1)) (opA gAll (aC (lcM [3] (seqI (vN 0)) (setS 3) yesT (callM m_is_whole (aC (vN 3) (aC (cD (.int 0)) (aC (op2 gSub (vN 2) (cD (.int 1))) aN))))) aN)))))
def m_are_lines : List PyData → R PyData := fnRun 3 4 b_are_lines
def b_is_ear : SM := (retO (andV (isi .tuple (vN 0)) (andV (op2 gEq (opA gLen (aC (vN 0) aN)) (cD (.int 2))) (andV (callM m_is_word (aC (op2 gIx (vN 0) (cD (.int 0))) aN)) (callM m_is_whole (aC (op2 gIx (vN 0) (cD (.int 1))) (aC (cD (.int 1)) (aC (cD (.int 3)) aN))))))))
def m_is_ear : List PyData → R PyData := fnRun 1 1 b_is_ear
def b_are_ears : SM := (retO (andV (isi .tuple (vN 0)) (andV (op2 gLe (opA gLen (aC (vN 0) aN)) (cD (.int 2))) (andV (opA gAll (aC (lcM [1] (seqI (vN 0)) (setS 1) yesT (callM m_is_ear (aC (vN 1) aN))) aN)) (callM m_rise (aC (vN 0) aN))))))
def m_are_ears : List PyData → R PyData := fnRun 1 2 b_are_ears
def b_places_for : SM := (retO (op2 gIx (opA gLstD (aC (cD (.int 1)) (aC (vN 0) (aC (op2 gMul (vN 0) (vN 0)) aN)))) (opA gLen (aC (vN 1) aN))))
def m_places_for : List PyData → R PyData := fnRun 2 2 b_places_for
def b_is_singer : SM := (seqO (ifO (orT (notT (tst (isi .tuple (vN 0)))) (orT (tst (op2 gNe (opA gLen (aC (vN 0) aN)) (cD (.int 3)))) (orT (notT (tst (callM m_is_word (aC (op2 gIx (vN 0) (cD (.int 0))) aN)))) (notT (tst (callM m_are_ears (aC (op2 gIx (vN 0) (cD (.int 1))) aN))))))) (retO (cD (.bool false))) nxO)
  (retO (callM m_are_lines (aC (op2 gIx (vN 0) (cD (.int 2))) (aC (callM m_places_for (aC (vN 1) (aC (op2 gIx (vN 0) (cD (.int 1))) aN))) (aC (vN 1) aN))))))
def m_is_singer : List PyData → R PyData := fnRun 2 2 b_is_singer
def b_is_choir : SM := (seqO (ifO (orT (notT (tst (isi .tuple (vN 0)))) (orT (tst (op2 gNe (opA gLen (aC (vN 0) aN)) (cD (.int 2)))) (notT (tst (callM m_is_whole (aC (op2 gIx (vN 0) (cD (.int 0))) (aC (cD (.int 2)) (aC (cD (.int 4)) aN)))))))) (retO (cD (.bool false))) nxO)
  (seqO (asgO (vN 0) (unT (gsC (setS 1) (gsC (setS 2) gsN))))
  (seqO (ifO (orT (notT (tst (isi .tuple (vN 2)))) (notT (tst (chain gLe gLe (cD (.int 1)) (opA gLen (aC (vN 2) aN)) (cD (.int 4)))))) (retO (cD (.bool false))) nxO)
  (seqO (ifO (orT (notT (tst (opA gAll (aC (lcM [4] (seqI (vN 2)) (setS 4) yesT (callM m_is_singer (aC (vN 4) (aC (vN 1) aN)))) aN)))) (notT (tst (callM m_rise (aC (lcM [4] (seqI (vN 2)) (setS 4) yesT (op2 gIx (vN 4) (cD (.int 0)))) aN))))) (retO (cD (.bool false))) nxO)
  (seqO (asgO (lcM [4] (seqI (vN 2)) (setS 4) yesT (op2 gIx (vN 4) (cD (.int 0)))) (setS 3))
  (retO (opA gAll (aC (lcM2 [4, 5] [5] (seqI (vN 2)) (setS 4) yesT (seqI (op2 gIx (vN 4) (cD (.int 1)))) (setS 5) yesT (op2 gIn (op2 gIx (vN 5) (cD (.int 0))) (vN 3))) aN))))))))
def m_is_choir : List PyData → R PyData := fnRun 1 6 b_is_choir
def b_need_choir : SM := (ifO (notT (tst (callM m_is_choir (aC (vN 0) aN)))) (raiseO "BadChoir") nxO)
def m_need_choir : List PyData → R PyData := fnRun 1 1 b_need_choir
def b_all_names : SM := (retO (lcM [1] (seqI (op2 gIx (vN 0) (cD (.int 1)))) (setS 1) yesT (op2 gIx (vN 1) (cD (.int 0)))))
def m_all_names : List PyData → R PyData := fnRun 1 2 b_all_names
def b_is_good_standing : SM := (seqO (ifO (orT (notT (tst (isi .tuple (vN 1)))) (tst (op2 gNe (opA gLen (aC (vN 1) aN)) (opA gLen (aC (op2 gIx (vN 0) (cD (.int 1))) aN))))) (retO (cD (.bool false))) nxO)
  (retO (opA gAll (aC (lcM [2] (seqI (vN 1)) (setS 2) yesT (callM m_are_lines (aC (vN 2) (aC (cD (.int 3)) (aC (op2 gIx (vN 0) (cD (.int 0))) aN))))) aN))))
def m_is_good_standing : List PyData → R PyData := fnRun 2 3 b_is_good_standing
def b_need_standing : SM := (ifO (notT (tst (callM m_is_good_standing (aC (vN 0) (aC (vN 1) aN))))) (raiseO "BadStanding") nxO)
def m_need_standing : List PyData → R PyData := fnRun 2 2 b_need_standing
def b_number_of : SM := (retO (opM gIndex (callM m_all_names (aC (vN 0) aN)) (aC (vN 1) aN)))
def m_number_of : List PyData → R PyData := fnRun 2 2 b_number_of
def b_heard_by : SM := (retO (opA gTuple (aC (lcM [3, 4] (seqI (op2 gIx (vN 2) (cD (.int 1)))) (unT (gsC (setS 3) (gsC (setS 4) gsN))) yesT (op2 gIx (op2 gIx (vN 1) (callM m_number_of (aC (vN 0) (aC (vN 3) aN)))) (op2 gSub (cD (.int 3)) (vN 4)))) aN)))
def m_heard_by : List PyData → R PyData := fnRun 3 5 b_heard_by
def b_place_of_L1 : SM := (asgO (op2 gAdd (op2 gMul (vN 2) (vN 0)) (vN 3)) (setS 2))
def b_place_of : SM := (seqO (asgO (cD (.int 0)) (setS 2))
  (seqO (forO (seqI (vN 1)) (setS 3) b_place_of_L1)
  (retO (vN 2))))
def m_place_of : List PyData → R PyData := fnRun 2 4 b_place_of
def b_table_line : SM := (retO (op2 gIx (op2 gIx (vN 2) (cD (.int 2))) (callM m_place_of (aC (op2 gIx (vN 0) (cD (.int 0))) (aC (callM m_heard_by (aC (vN 0) (aC (vN 1) (aC (vN 2) aN)))) aN)))))
def m_table_line : List PyData → R PyData := fnRun 3 3 b_table_line
def b_all_next : SM := (retO (opA gTuple (aC (lcM [2] (seqI (op2 gIx (vN 0) (cD (.int 1)))) (setS 2) yesT (callM m_table_line (aC (vN 0) (aC (vN 1) (aC (vN 2) aN))))) aN)))
def m_all_next : List PyData → R PyData := fnRun 2 3 b_all_next
def b_behind : SM := (retO (opA gTuple (aC (lcM [2, 3] (opI gZip (aC (vN 0) (aC (vN 1) aN))) (unT (gsC (setS 2) (gsC (setS 3) gsN))) yesT (op2 gAdd (slc (vN 2) (prt (cD (.int 1))) noPrt) (opA gTupD (aC (vN 3) aN)))) aN)))
def m_behind : List PyData → R PyData := fnRun 2 4 b_behind
def b_on : SM := (retO (callM m_behind (aC (vN 1) (aC (callM m_all_next (aC (vN 0) (aC (vN 1) aN))) aN))))
def m_on : List PyData → R PyData := fnRun 2 2 b_on
def b_do_count_L1 : SM := (seqO (asgO (lcM [7] (opI rg1 (aC (vN 0) aN)) (setS 7) yesT (ifV (tst (op2 gEq (vN 2) (cD (.int 0)))) (opA gTupD (aC (vN 7) (aC (vN 5) aN))) (opA gTupD (aC (vN 5) (aC (vN 7) aN))))) (setS 6))
  (ifO (tst (op2 gGt (op1 setLen (lcM [8] (seqI (vN 6)) (setS 8) yesT (op2 gIx (vN 4) (callM m_place_of (aC (vN 0) (aC (slc (vN 8) noPrt (prt (opA gLen (aC (vN 3) aN)))) aN)))))) (cD (.int 1)))) (retO (cD (.bool true))) nxO))
def b_do_count : SM := (seqO (asgO (opA gTupD (aC (op2 gIx (vN 1) (cD (.int 1))) (aC (op2 gIx (vN 1) (cD (.int 2))) aN))) (unT (gsC (setS 3) (gsC (setS 4) gsN))))
  (seqO (forO (opI rg1 (aC (ifV (tst (op2 gEq (opA gLen (aC (vN 3) aN)) (cD (.int 2)))) (vN 0) (cD (.int 1))) aN)) (setS 5) b_do_count_L1)
  (retO (cD (.bool false)))))
def m_do_count : List PyData → R PyData := fnRun 3 9 b_do_count
def b_ears_that_count : SM := (retO (opA gTuple (aC (lcM [2, 3] (opI gEnum (aC (op2 gIx (vN 1) (cD (.int 1))) aN)) (unT (gsC (setS 2) (gsC (setS 3) gsN))) (tst (callM m_do_count (aC (vN 0) (aC (vN 1) (aC (vN 2) aN))))) (vN 3)) aN)))
def m_ears_that_count : List PyData → R PyData := fnRun 2 4 b_ears_that_count
def b_lean_singer : SM := (seqO (asgO (vN 1) (unT (gsC (setS 2) (gsC (setS 3) (gsC (setS 4) gsN)))))
  (seqO (asgO (callM m_ears_that_count (aC (vN 0) (aC (vN 1) aN))) (setS 5))
  (seqO (ifO (tst (op2 gEq (vN 5) (vN 3))) (retO (vN 1)) nxO)
  (seqO (ifO (tst (op2 gEq (vN 5) (opA gTupD aN))) (retO (opA gTupD (aC (vN 2) (aC (opA gTupD aN) (aC (slc (vN 4) noPrt (prt (cD (.int 1)))) aN))))) nxO)
  (seqO (asgO (lcM [7] (opI rg1 (aC (vN 0) aN)) (setS 7) yesT (ifV (tst (op2 gEq (op2 gIx (vN 5) (cD (.int 0))) (op2 gIx (vN 3) (cD (.int 0))))) (op2 gMul (vN 7) (vN 0)) (vN 7))) (setS 6))
  (retO (opA gTupD (aC (vN 2) (aC (vN 5) (aC (opA gTuple (aC (lcM [8] (seqI (vN 6)) (setS 8) yesT (op2 gIx (vN 4) (vN 8))) aN)) aN))))))))))
def m_lean_singer : List PyData → R PyData := fnRun 2 9 b_lean_singer
def b_leaned : SM := (retO (opA gTupD (aC (op2 gIx (vN 0) (cD (.int 0))) (aC (opA gTuple (aC (lcM [1] (seqI (op2 gIx (vN 0) (cD (.int 1)))) (setS 1) yesT (callM m_lean_singer (aC (op2 gIx (vN 0) (cD (.int 0))) (aC (vN 1) aN)))) aN)) aN))))
def m_leaned : List PyData → R PyData := fnRun 1 2 b_leaned
def b_lean : SM := (seqO (dropO (callM m_need_choir (aC (vN 0) aN)))
  (retO (callM m_leaned (aC (vN 0) aN))))
def m_lean : List PyData → R PyData := fnRun 1 1 b_lean
def b_need_both : SM := (seqO (dropO (callM m_need_choir (aC (vN 0) aN)))
  (dropO (callM m_need_standing (aC (vN 0) (aC (vN 1) aN)))))
def m_need_both : List PyData → R PyData := fnRun 2 2 b_need_both
def b_need_beats : SM := (ifO (notT (tst (callM m_is_whole (aC (vN 0) (aC (cD (.int 0)) (aC (cD (.int 500)) aN)))))) (raiseO "BadNumber") nxO)
def m_need_beats : List PyData → R PyData := fnRun 1 1 b_need_beats
def b_rows_of_L1 : SM := (seqO (appO 3 (callM m_all_next (aC (vN 0) (aC (vN 1) aN))))
  (asgO (callM m_on (aC (vN 0) (aC (vN 1) aN))) (setS 1)))
def b_rows_of : SM := (seqO (ownO 3 aN)
  (seqO (forO (opI rg1 (aC (vN 2) aN)) (setS 4) b_rows_of_L1)
  (demO false (retO (vN 3)))))
def m_rows_of : List PyData → R PyData := fnRun 3 5 b_rows_of
def b_law_drawn : SM := (seqO (asgO (op2 gMod (op2 gAdd (op2 gMul (vN 0) (cD (.int 6364136223846793005))) (op2 gMul (op2 gAdd (vN 1) (cD (.int 1))) (cD (.int 1442695040888963407)))) (cD (.int 340282366920938463463374607431768211507))) (setS 2))
  (seqO (asgO (op2 gMod (op2 gMul (vN 2) (vN 2)) (cD (.int 340282366920938463463374607431768211297))) (setS 2))
  (seqO (asgO (op2 gMul (op2 gMul (op2 gAdd (op2 gMod (vN 2) (cD (.int 18446744073709551557))) (cD (.int 1))) (op2 gAdd (op2 gDiv (vN 2) (cD (.int 18446744073709551557))) (cD (.int 1)))) (vN 2)) (setS 2))
  (retO (op2 gMod (vN 2) (cD (.int 340282366920938463463374607431768211507)))))))
def m_law_drawn : List PyData → R PyData := fnRun 2 3 b_law_drawn
def b_law_roll : SM := (seqO (ifO (tst (op2 gGe (ixO 0 (cD (.int 0))) (op2 gPow (cD (.int 10)) (cD (.int 18))))) (seqO (asgO (op2 gMod (ixO 0 (cD (.int 0))) (vN 1)) (setS 2))
  (seqO (sixO 0 (cD (.int 0)) (op2 gDiv (ixO 0 (cD (.int 0))) (vN 1)))
  (retO (vN 2)))) nxO)
  (seqO (sixO 0 (cD (.int 1)) (op2 gAdd (ixO 0 (cD (.int 1))) (cD (.int 1))))
  (retO (op2 gMod (op2 gDiv (callM m_law_drawn (aC (ixO 0 (cD (.int 0))) (aC (ixO 0 (cD (.int 1))) aN))) (cD (.int 8))) (vN 1)))))
def m_law_roll : PyData → List PyData → R (PyData × PyData) := fnRunL 1 3 b_law_roll
def b_law_any_singers_L1 : SM := (seqO (asgO (opA gTupD (aC (op2 gIx (vN 2) (callL 0 m_law_roll (aC (opA gLen (aC (vN 2) aN)) aN))) (aC (op2 gAdd (cD (.int 1)) (callL 0 m_law_roll (aC (cD (.int 3)) aN))) aN))) (setS 8))
  (ifO (brwT true (tst (op2 gNotIn (vN 8) (vN 5)))) (appO 5 (vN 8)) nxO))
def b_law_any_singers_L2 : SM := (seqO (ownO 5 aN)
  (seqO (forO (opI rg1 (aC (callL 0 m_law_roll (aC (cD (.int 3)) aN)) aN)) (setS 6) b_law_any_singers_L1)
  (seqO (asgO (op2 gIx (opA gLstD (aC (cD (.int 1)) (aC (vN 1) (aC (op2 gMul (vN 1) (vN 1)) aN)))) (brw true (opA gLen (aC (vN 5) aN)))) (setS 7))
  (appO 3 (opA gTupD (aC (vN 4) (aC (brw true (opA gTuple (aC (opA gSorted (aC (vN 5) aN)) aN))) (aC (opA gTuple (aC (lcM [9] (opI rg1 (aC (vN 7) aN)) (setS 9) yesT (callL 0 m_law_roll (aC (vN 1) aN))) aN)) aN))))))))
def b_law_any_singers : SM := (seqO (ownO 3 aN)
  (seqO (forO (seqI (vN 2)) (setS 4) b_law_any_singers_L2)
  (retO (brw true (opA gTuple (aC (vN 3) aN))))))
def m_law_any_singers : PyData → List PyData → R (PyData × PyData) := fnRunL 2 10 b_law_any_singers
def b_law_any_choir : SM := (seqO (asgO (callL 0 m_law_roll (aC (cD (.int 6)) aN)) (setS 1))
  (seqO (asgO (op2 gIx (opA gLstD (aC (opA gTupD (aC (cD (.int 2)) (aC (cD (.int 1)) aN))) (aC (opA gTupD (aC (cD (.int 2)) (aC (cD (.int 2)) aN))) (aC (opA gTupD (aC (cD (.int 2)) (aC (cD (.int 3)) aN))) (aC (opA gTupD (aC (cD (.int 3)) (aC (cD (.int 1)) aN))) (aC (opA gTupD (aC (cD (.int 3)) (aC (cD (.int 2)) aN))) (aC (opA gTupD (aC (cD (.int 4)) (aC (cD (.int 1)) aN))) aN))))))) (vN 1)) (unT (gsC (setS 2) (gsC (setS 3) gsN))))
  (retO (opA gTupD (aC (vN 2) (aC (callL 0 m_law_any_singers (aC (vN 2) (aC (slc (opA gLstD (aC (cD (.str "ann")) (aC (cD (.str "bob")) (aC (cD (.str "cy")) aN)))) noPrt (prt (vN 3))) aN))) aN))))))
def m_law_any_choir : PyData → List PyData → R (PyData × PyData) := fnRunL 0 4 b_law_any_choir
def b_law_crew : SM := (retO (lcM [1] (seqI (op2 gIx (vN 0) (cD (.int 1)))) (setS 1) yesT (op2 gIx (vN 1) (cD (.int 0)))))
def m_law_crew : List PyData → R PyData := fnRun 1 2 b_law_crew
def b_need_name : SM := (ifO (orT (notT (tst (isi .str (vN 1)))) (tst (op2 gNotIn (vN 1) (callM m_all_names (aC (vN 0) aN))))) (raiseO "BadName") nxO)
def m_need_name : List PyData → R PyData := fnRun 2 2 b_need_name
def b_all_soonest_L1 : SM := (asgO (op2 gAdd (vN 3) (lcM [11] (seqI (op2 gIx (vN 4) (cD (.int 1)))) (setS 11) yesT (opA gTupD (aC (op2 gIx (vN 11) (cD (.int 0))) (aC (op2 gIx (vN 4) (cD (.int 0))) (aC (op2 gIx (vN 11) (cD (.int 1))) aN)))))) (setS 3))
def b_all_soonest_L2 : SM := (ifO (brwT false (andT (tst (op2 gEq (vN 8) (vN 6))) (orT (tst (op2 gNotInX (vN 9) (vN 2))) (tst (op2 gLt (op2 gAdd (vN 7) (vN 10)) (op2 gIxX (vN 2) (vN 9))))))) (seqO (dsetO 2 (vN 9) (op2 gAdd (vN 7) (vN 10)))
  (appO 5 (opA gTupD (aC (vN 9) (aC (op2 gAdd (vN 7) (vN 10)) aN))))) nxO)
def b_all_soonest_L3 : SM := (seqO (asgO (brw false (HD.opMin [8] (opA gTupD (aC (op2 gIx (vN 8) (cD (.int 1))) (aC (op2 gIx (vN 8) (cD (.int 0))) aN))) (vN 5))) (unT (gsC (setS 6) (gsC (setS 7) gsN))))
  (seqO (remO 5 (opA gTupD (aC (vN 6) (aC (vN 7) aN))))
  (forO (seqI (vN 3)) (unT (gsC (setS 8) (gsC (setS 9) (gsC (setS 10) gsN)))) b_all_soonest_L2)))
def b_all_soonest : SM := (seqO (parO [2, 3] (xOw (cD (.dict [])) (xSh (opA gLstD aN) xN)))
  (seqO (forO (seqI (op2 gIx (callM m_leaned (aC (vN 0) aN)) (cD (.int 1)))) (setS 4) b_all_soonest_L1)
  (seqO (ownO 5 (aC (opA gTupD (aC (vN 1) (aC (cD (.int 0)) aN))) aN))
  (seqO (whileO 100000 (brwT false (tst (op2 gNe (vN 5) (opA gLstD aN)))) b_all_soonest_L3)
  (demO false (retO (vN 2)))))))
def m_all_soonest : List PyData → R PyData := fnRun 2 12 b_all_soonest
def b_soonest : SM := (seqO (dropO (callM m_need_choir (aC (vN 0) aN)))
  (seqO (dropO (callM m_need_name (aC (vN 0) (aC (vN 1) aN))))
  (seqO (dropO (callM m_need_name (aC (vN 0) (aC (vN 2) aN))))
  (retO (dget1 (callM m_all_soonest (aC (vN 0) (aC (vN 1) aN))) (vN 2))))))
def m_soonest : List PyData → R PyData := fnRun 3 3 b_soonest
def b_is_lead : SM := (seqO (ifO (orT (notT (tst (isi .tuple (vN 1)))) (orT (tst (op2 gNe (opA gLen (aC (vN 1) aN)) (cD (.int 2)))) (notT (tst (callM m_is_whole (aC (op2 gIx (vN 1) (cD (.int 0))) (aC (cD (.int 0)) (aC (op2 gSub (cD (.int 500)) (cD (.int 1))) aN)))))))) (retO (cD (.bool false))) nxO)
  (retO (andV (isi .str (op2 gIx (vN 1) (cD (.int 1)))) (andV (op2 gIn (op2 gIx (vN 1) (cD (.int 1))) (callM m_all_names (aC (vN 0) aN))) (callM m_is_whole (aC (vN 2) (aC (cD (.int 0)) (aC (op2 gSub (op2 gIx (vN 0) (cD (.int 0))) (cD (.int 1))) aN))))))))
def m_is_lead : List PyData → R PyData := fnRun 3 3 b_is_lead
def b_need_leads : SM := (ifO (orT (notT (tst (isi .dict (vN 1)))) (notT (tst (opA gAll (aC (lcM [2] (dictI (vN 1)) (setS 2) yesT (callM m_is_lead (aC (vN 0) (aC (vN 2) (aC (op2 gIxX (vN 1) (vN 2)) aN))))) aN))))) (raiseO "BadLead") nxO)
def m_need_leads : List PyData → R PyData := fnRun 2 3 b_need_leads
def b_led_lines : SM := (seqO (asgO (opA gLZip (aC (callM m_all_names (aC (vN 0) aN)) (aC (callM m_all_next (aC (vN 0) (aC (vN 1) aN))) aN))) (setS 4))
  (retO (opA gTuple (aC (lcM [5, 6] (seqI (vN 4)) (unT (gsC (setS 5) (gsC (setS 6) gsN))) yesT (dget2 (vN 2) (opA gTupD (aC (vN 3) (aC (vN 5) aN))) (vN 6))) aN))))
def m_led_lines : List PyData → R PyData := fnRun 4 7 b_led_lines
def b_led_rows_L1 : SM := (seqO (appO 5 (vN 1))
  (seqO (appO 4 (callM m_led_lines (aC (vN 0) (aC (vN 1) (aC (vN 2) (aC (vN 6) aN))))))
  (asgO (callM m_behind (aC (vN 1) (aC (ixO 4 (op1 gNeg (cD (.int 1)))) aN))) (setS 1))))
def b_led_rows : SM := (seqO (parO [4, 5] (xOw (opA gLstD aN) (xOw (opA gLstD aN) xN)))
  (seqO (forO (opI rg1 (aC (vN 3) aN)) (setS 6) b_led_rows_L1)
  (demO false (retO (opA gTupD (aC (vN 4) (aC (vN 5) aN)))))))
def m_led_rows : List PyData → R PyData := fnRun 4 7 b_led_rows
def b_law_any_standing_L1 : SM := (appO 2 (opA gTuple (aC (lcM [4] (opI rg1 (aC (cD (.int 3)) aN)) (setS 4) yesT (callL 0 m_law_roll (aC (op2 gIx (vN 1) (cD (.int 0))) aN))) aN)))
def b_law_any_standing : SM := (seqO (ownO 2 aN)
  (seqO (forO (seqI (op2 gIx (vN 1) (cD (.int 1)))) (setS 3) b_law_any_standing_L1)
  (retO (brw true (opA gTuple (aC (vN 2) aN))))))
def m_law_any_standing : PyData → List PyData → R (PyData × PyData) := fnRunL 1 5 b_law_any_standing
def b_reaches : SM := (seqO (dropO (callM m_need_choir (aC (vN 0) aN)))
  (seqO (dropO (callM m_need_name (aC (vN 0) (aC (vN 1) aN))))
  (retO (opA gSortS (aC (callM m_all_soonest (aC (vN 0) (aC (vN 1) aN))) aN)))))
def m_reaches : List PyData → R PyData := fnRun 2 2 b_reaches
def b_changed_L1 : SM := (asgO (op2 gAdd (vN 6) (op2 gMul (opA gLstD (aC (opA gTupD (aC (vN 7) (aC (vN 9) aN))) aN)) (opA gInt (aC (op2 gNe (op2 gIx (op2 gIx (vN 4) (vN 7)) (vN 8)) (op2 gIx (op2 gIx (vN 5) (vN 7)) (vN 8))) aN)))) (setS 6))
def b_changed_L2 : SM := (forO (opI gEnum (aC (callM m_all_names (aC (vN 0) aN)) aN)) (unT (gsC (setS 8) (gsC (setS 9) gsN))) b_changed_L1)
def b_changed : SM := (seqO (dropO (callM m_need_both (aC (vN 0) (aC (vN 1) aN))))
  (seqO (dropO (callM m_need_leads (aC (vN 0) (aC (vN 2) aN))))
  (seqO (dropO (callM m_need_beats (aC (vN 3) aN)))
  (seqO (par2 4 5 (aC (callM m_rows_of (aC (vN 0) (aC (vN 1) (aC (vN 3) aN)))) (aC (op2 gIx (callM m_led_rows (aC (vN 0) (aC (vN 1) (aC (vN 2) (aC (vN 3) aN))))) (cD (.int 0))) aN)))
  (seqO (asgO (opA gLstD aN) (setS 6))
  (seqO (forO (opI rg1 (aC (vN 3) aN)) (setS 7) b_changed_L2)
  (retO (vN 6))))))))
def m_changed : List PyData → R PyData := fnRun 4 10 b_changed
end G
set_option Elab.async false
set_option linter.all false
set_option maxRecDepth 100000
set_option maxHeartbeats 4000000
namespace G
open PySem PySem.Spec PyProof.Rows L2 DL
def b_law_L1 : SM := (seqO (asgO (ifV (tst (op2 gEq (vN 16) (vN 5))) (cD (.int 0)) (cD .none)) (setS 18))
  (seqO (asgO (brwF false (lcM [20] (seqI (opA gLstD (aC (vN 18) (aC (dget1 (vN 6) (vN 16)) aN)))) (setS 20) (tst (op2 gIsNot (vN 20) (cD .none))) (vN 20))) (setS 19))
  (ifO (brwT false (andT (tst (op2 gNe (vN 19) (opA gLstD aN))) (tst (op2 gLt (op2 gAdd (opA gMinL (aC (vN 19) aN)) (vN 17)) (dget2 (vN 6) (vN 13) (cD (.int 99))))))) (dsetO 6 (vN 13) (op2 gAdd (opA gMinL (aC (vN 19) aN)) (vN 17))) nxO)))
def b_law_L2 : SM := (forO (seqI (vN 14)) (unT (gsC (setS 16) (gsC (setS 17) gsN))) b_law_L1)
def b_law_L3 : SM := (forO (seqI (op2 gIx (vN 4) (cD (.int 1)))) (unT (gsC (setS 13) (gsC (setS 14) (gsC (setS 15) gsN)))) b_law_L2)
def b_law_L4 : SM := (ifO (brwT false (tst (op2 gNe (callM m_soonest (aC (vN 2) (aC (vN 5) (aC (vN 8) aN)))) (dget1 (vN 6) (vN 8))))) (retO (cD (.bool false))) nxO)
def b_law_L5 : SM := (ifO (brwT false (andT (tst (op2 gNe (opA gTupD (aC (vN 12) (aC (vN 13) aN))) (opA gTupD (aC (vN 10) (aC (vN 5) aN))))) (orT (tst (op2 gNotInX (vN 13) (vN 6))) (tst (op2 gLt (vN 12) (op2 gAdd (vN 10) (op2 gIxX (vN 6) (vN 13)))))))) (retO (cD (.bool false))) nxO)
def b_law_L6 : SM := (seqO (ownFO 6 (cD (.dict [])))
  (seqO (forO (opI rg1 (aC (cD (.int 30)) aN)) (setS 7) b_law_L3)
  (seqO (ifO (brwT false (tst (op2 gNe (callM m_reaches (aC (vN 2) (aC (vN 5) aN))) (opA gSortS (aC (vN 6) aN))))) (retO (cD (.bool false))) nxO)
  (seqO (forO (seqI (vN 3)) (setS 8) b_law_L4)
  (seqO (par2 9 10 (aC (callL 1 m_law_any_standing (aC (vN 2) aN)) (aC (callL 1 m_law_roll (aC (cD (.int 4)) aN)) aN)))
  (seqO (asgO (op2 gD1 (opA gTupD (aC (vN 10) (aC (vN 5) aN))) (callL 1 m_law_roll (aC (op2 gIx (vN 2) (cD (.int 0))) aN))) (setS 11))
  (forO (seqI (callM m_changed (aC (vN 2) (aC (vN 9) (aC (vN 11) (aC (cD (.int 20)) aN)))))) (unT (gsC (setS 12) (gsC (setS 13) gsN))) b_law_L5)))))))
def b_law : SM := (seqO (asgO (callL 1 m_law_any_choir aN) (setS 2))
  (seqO (par2 3 4 (aC (callM m_law_crew (aC (vN 2) aN)) (aC (callM m_lean (aC (vN 2) aN)) aN)))
  (forO (seqI (vN 3)) (setS 5) b_law_L6)))
abbrev law_n : Nat := 21
abbrev law_di : Nat := 1
end G
set_option Elab.async false
set_option linter.all false
set_option maxRecDepth 100000
set_option maxHeartbeats 4000000
namespace G
open PySem PySem.Spec PyProof.Rows L2 DL
variable [TabCtx]
structure Tx (K : PySem.W.Frag) (mg : Str → Option Value) : Prop where
  f_is_whole : ∃ fd, FunD K "is_whole" "is_whole" (defArgs s_is_whole) (defBody s_is_whole) (defScope s_is_whole) [] [] (He.ga K "is_whole") fd
  g_is_whole : mg "is_whole" = some (.ref (He.ga K "is_whole"))
  f_is_word : ∃ fd, FunD K "is_word" "is_word" (defArgs s_is_word) (defBody s_is_word) (defScope s_is_word) [] [] (He.ga K "is_word") fd
  g_is_word : mg "is_word" = some (.ref (He.ga K "is_word"))
  f_rise : ∃ fd, FunD K "rise" "rise" (defArgs s_rise) (defBody s_rise) (defScope s_rise) [] [] (He.ga K "rise") fd
  g_rise : mg "rise" = some (.ref (He.ga K "rise"))
  f_are_lines : ∃ fd, FunD K "are_lines" "are_lines" (defArgs s_are_lines) (defBody s_are_lines) (defScope s_are_lines) [] [] (He.ga K "are_lines") fd
  g_are_lines : mg "are_lines" = some (.ref (He.ga K "are_lines"))
  f_is_ear : ∃ fd, FunD K "is_ear" "is_ear" (defArgs s_is_ear) (defBody s_is_ear) (defScope s_is_ear) [] [] (He.ga K "is_ear") fd
  g_is_ear : mg "is_ear" = some (.ref (He.ga K "is_ear"))
  f_are_ears : ∃ fd, FunD K "are_ears" "are_ears" (defArgs s_are_ears) (defBody s_are_ears) (defScope s_are_ears) [] [] (He.ga K "are_ears") fd
  g_are_ears : mg "are_ears" = some (.ref (He.ga K "are_ears"))
  f_places_for : ∃ fd, FunD K "places_for" "places_for" (defArgs s_places_for) (defBody s_places_for) (defScope s_places_for) [] [] (He.ga K "places_for") fd
  g_places_for : mg "places_for" = some (.ref (He.ga K "places_for"))
  f_is_singer : ∃ fd, FunD K "is_singer" "is_singer" (defArgs s_is_singer) (defBody s_is_singer) (defScope s_is_singer) [] [] (He.ga K "is_singer") fd
  g_is_singer : mg "is_singer" = some (.ref (He.ga K "is_singer"))
  f_is_choir : ∃ fd, FunD K "is_choir" "is_choir" (defArgs s_is_choir) (defBody s_is_choir) (defScope s_is_choir) [] [] (He.ga K "is_choir") fd
  g_is_choir : mg "is_choir" = some (.ref (He.ga K "is_choir"))
  f_need_choir : ∃ fd, FunD K "need_choir" "need_choir" (defArgs s_need_choir) (defBody s_need_choir) (defScope s_need_choir) [] [] (He.ga K "need_choir") fd
  g_need_choir : mg "need_choir" = some (.ref (He.ga K "need_choir"))
  f_all_names : ∃ fd, FunD K "all_names" "all_names" (defArgs s_all_names) (defBody s_all_names) (defScope s_all_names) [] [] (He.ga K "all_names") fd
  g_all_names : mg "all_names" = some (.ref (He.ga K "all_names"))
  f_is_good_standing : ∃ fd, FunD K "is_good_standing" "is_good_standing" (defArgs s_is_good_standing) (defBody s_is_good_standing) (defScope s_is_good_standing) [] [] (He.ga K "is_good_standing") fd
  g_is_good_standing : mg "is_good_standing" = some (.ref (He.ga K "is_good_standing"))
  f_need_standing : ∃ fd, FunD K "need_standing" "need_standing" (defArgs s_need_standing) (defBody s_need_standing) (defScope s_need_standing) [] [] (He.ga K "need_standing") fd
  g_need_standing : mg "need_standing" = some (.ref (He.ga K "need_standing"))
  f_need_name : ∃ fd, FunD K "need_name" "need_name" (defArgs s_need_name) (defBody s_need_name) (defScope s_need_name) [] [] (He.ga K "need_name") fd
  g_need_name : mg "need_name" = some (.ref (He.ga K "need_name"))
  f_number_of : ∃ fd, FunD K "number_of" "number_of" (defArgs s_number_of) (defBody s_number_of) (defScope s_number_of) [] [] (He.ga K "number_of") fd
  g_number_of : mg "number_of" = some (.ref (He.ga K "number_of"))
  f_heard_by : ∃ fd, FunD K "heard_by" "heard_by" (defArgs s_heard_by) (defBody s_heard_by) (defScope s_heard_by) [] [] (He.ga K "heard_by") fd
  g_heard_by : mg "heard_by" = some (.ref (He.ga K "heard_by"))
  f_place_of : ∃ fd, FunD K "place_of" "place_of" (defArgs s_place_of) (defBody s_place_of) (defScope s_place_of) [] [] (He.ga K "place_of") fd
  g_place_of : mg "place_of" = some (.ref (He.ga K "place_of"))
  f_table_line : ∃ fd, FunD K "table_line" "table_line" (defArgs s_table_line) (defBody s_table_line) (defScope s_table_line) [] [] (He.ga K "table_line") fd
  g_table_line : mg "table_line" = some (.ref (He.ga K "table_line"))
  f_all_next : ∃ fd, FunD K "all_next" "all_next" (defArgs s_all_next) (defBody s_all_next) (defScope s_all_next) [] [] (He.ga K "all_next") fd
  g_all_next : mg "all_next" = some (.ref (He.ga K "all_next"))
  f_behind : ∃ fd, FunD K "behind" "behind" (defArgs s_behind) (defBody s_behind) (defScope s_behind) [] [] (He.ga K "behind") fd
  g_behind : mg "behind" = some (.ref (He.ga K "behind"))
  f_on : ∃ fd, FunD K "on" "on" (defArgs s_on) (defBody s_on) (defScope s_on) [] [] (He.ga K "on") fd
  g_on : mg "on" = some (.ref (He.ga K "on"))
  f_do_count : ∃ fd, FunD K "do_count" "do_count" (defArgs s_do_count) (defBody s_do_count) (defScope s_do_count) [] [] (He.ga K "do_count") fd
  g_do_count : mg "do_count" = some (.ref (He.ga K "do_count"))
  f_ears_that_count : ∃ fd, FunD K "ears_that_count" "ears_that_count" (defArgs s_ears_that_count) (defBody s_ears_that_count) (defScope s_ears_that_count) [] [] (He.ga K "ears_that_count") fd
  g_ears_that_count : mg "ears_that_count" = some (.ref (He.ga K "ears_that_count"))
  f_lean_singer : ∃ fd, FunD K "lean_singer" "lean_singer" (defArgs s_lean_singer) (defBody s_lean_singer) (defScope s_lean_singer) [] [] (He.ga K "lean_singer") fd
  g_lean_singer : mg "lean_singer" = some (.ref (He.ga K "lean_singer"))
  f_leaned : ∃ fd, FunD K "leaned" "leaned" (defArgs s_leaned) (defBody s_leaned) (defScope s_leaned) [] [] (He.ga K "leaned") fd
  g_leaned : mg "leaned" = some (.ref (He.ga K "leaned"))
  f_lean : ∃ fd, FunD K "lean" "lean" (defArgs s_lean) (defBody s_lean) (defScope s_lean) [] [] (He.ga K "lean") fd
  g_lean : mg "lean" = some (.ref (He.ga K "lean"))
  f_all_soonest : ∃ fd, FunD K "all_soonest" "all_soonest" (defArgs s_all_soonest) (defBody s_all_soonest) (defScope s_all_soonest) [] [] (He.ga K "all_soonest") fd
  g_all_soonest : mg "all_soonest" = some (.ref (He.ga K "all_soonest"))
  f_soonest : ∃ fd, FunD K "soonest" "soonest" (defArgs s_soonest) (defBody s_soonest) (defScope s_soonest) [] [] (He.ga K "soonest") fd
  g_soonest : mg "soonest" = some (.ref (He.ga K "soonest"))
  f_reaches : ∃ fd, FunD K "reaches" "reaches" (defArgs s_reaches) (defBody s_reaches) (defScope s_reaches) [] [] (He.ga K "reaches") fd
  g_reaches : mg "reaches" = some (.ref (He.ga K "reaches"))
  f_need_both : ∃ fd, FunD K "need_both" "need_both" (defArgs s_need_both) (defBody s_need_both) (defScope s_need_both) [] [] (He.ga K "need_both") fd
  g_need_both : mg "need_both" = some (.ref (He.ga K "need_both"))
  f_need_beats : ∃ fd, FunD K "need_beats" "need_beats" (defArgs s_need_beats) (defBody s_need_beats) (defScope s_need_beats) [] [] (He.ga K "need_beats") fd
  g_need_beats : mg "need_beats" = some (.ref (He.ga K "need_beats"))
  f_rows_of : ∃ fd, FunD K "rows_of" "rows_of" (defArgs s_rows_of) (defBody s_rows_of) (defScope s_rows_of) [] [] (He.ga K "rows_of") fd
  g_rows_of : mg "rows_of" = some (.ref (He.ga K "rows_of"))
  f_is_lead : ∃ fd, FunD K "is_lead" "is_lead" (defArgs s_is_lead) (defBody s_is_lead) (defScope s_is_lead) [] [] (He.ga K "is_lead") fd
  g_is_lead : mg "is_lead" = some (.ref (He.ga K "is_lead"))
  f_need_leads : ∃ fd, FunD K "need_leads" "need_leads" (defArgs s_need_leads) (defBody s_need_leads) (defScope s_need_leads) [] [] (He.ga K "need_leads") fd
  g_need_leads : mg "need_leads" = some (.ref (He.ga K "need_leads"))
  f_led_lines : ∃ fd, FunD K "led_lines" "led_lines" (defArgs s_led_lines) (defBody s_led_lines) (defScope s_led_lines) [] [] (He.ga K "led_lines") fd
  g_led_lines : mg "led_lines" = some (.ref (He.ga K "led_lines"))
  f_led_rows : ∃ fd, FunD K "led_rows" "led_rows" (defArgs s_led_rows) (defBody s_led_rows) (defScope s_led_rows) [] [] (He.ga K "led_rows") fd
  g_led_rows : mg "led_rows" = some (.ref (He.ga K "led_rows"))
  f_changed : ∃ fd, FunD K "changed" "changed" (defArgs s_changed) (defBody s_changed) (defScope s_changed) [] [] (He.ga K "changed") fd
  g_changed : mg "changed" = some (.ref (He.ga K "changed"))
  f_law_cell : ∃ fd, FunD K "_law_cell" "_law_cell" (defArgs s_law_cell) (defBody s_law_cell) (defScope s_law_cell) [] [] (He.ga K "_law_cell") fd
  g_law_cell : mg "_law_cell" = some (.ref (He.ga K "_law_cell"))
  f_law_drawn : ∃ fd, FunD K "_law_drawn" "_law_drawn" (defArgs s_law_drawn) (defBody s_law_drawn) (defScope s_law_drawn) [] [] (He.ga K "_law_drawn") fd
  g_law_drawn : mg "_law_drawn" = some (.ref (He.ga K "_law_drawn"))
  f_law_roll : ∃ fd, FunD K "_law_roll" "_law_roll" (defArgs s_law_roll) (defBody s_law_roll) (defScope s_law_roll) [] [] (He.ga K "_law_roll") fd
  g_law_roll : mg "_law_roll" = some (.ref (He.ga K "_law_roll"))
  f_law_rounds : ∃ fd, FunD K "_law_rounds" "_law_rounds" (defArgs s_law_rounds) (defBody s_law_rounds) (defScope s_law_rounds) [] [] (He.ga K "_law_rounds") fd
  g_law_rounds : mg "_law_rounds" = some (.ref (He.ga K "_law_rounds"))
  f_law_any_singers : ∃ fd, FunD K "_law_any_singers" "_law_any_singers" (defArgs s_law_any_singers) (defBody s_law_any_singers) (defScope s_law_any_singers) [] [] (He.ga K "_law_any_singers") fd
  g_law_any_singers : mg "_law_any_singers" = some (.ref (He.ga K "_law_any_singers"))
  f_law_any_choir : ∃ fd, FunD K "_law_any_choir" "_law_any_choir" (defArgs s_law_any_choir) (defBody s_law_any_choir) (defScope s_law_any_choir) [] [] (He.ga K "_law_any_choir") fd
  g_law_any_choir : mg "_law_any_choir" = some (.ref (He.ga K "_law_any_choir"))
  f_law_any_standing : ∃ fd, FunD K "_law_any_standing" "_law_any_standing" (defArgs s_law_any_standing) (defBody s_law_any_standing) (defScope s_law_any_standing) [] [] (He.ga K "_law_any_standing") fd
  g_law_any_standing : mg "_law_any_standing" = some (.ref (He.ga K "_law_any_standing"))
  f_law_crew : ∃ fd, FunD K "_law_crew" "_law_crew" (defArgs s_law_crew) (defBody s_law_crew) (defScope s_law_crew) [] [] (He.ga K "_law_crew") fd
  g_law_crew : mg "_law_crew" = some (.ref (He.ga K "_law_crew"))
  f_law : ∃ fd, FunD K "law" "law" (defArgs s_law) (defBody s_law) (defScope s_law) [] [] (He.ga K "law") fd
  g_law : mg "law" = some (.ref (He.ga K "law"))
  x_SongError : ExcF K mg "SongError"
  x_BadChoir : ExcF K mg "BadChoir"
  x_BadName : ExcF K mg "BadName"
  x_BadStanding : ExcF K mg "BadStanding"
  x_BadNumber : ExcF K mg "BadNumber"
  x_BadLead : ExcF K mg "BadLead"
  c_SMALL : ∃ t, mg "SMALL" = some (.str "abcdefghijklmnopqrstuvwxyz" t)
  c_LONGEST : ∃ t, mg "LONGEST" = some (.int 500 t)
  z_all : mg "all" = none
  z_bool : mg "bool" = none
  z_dict : mg "dict" = none
  z_enumerate : mg "enumerate" = none
  z_int : mg "int" = none
  z_isinstance : mg "isinstance" = none
  z_len : mg "len" = none
  z_list : mg "list" = none
  z_max : mg "max" = none
  z_min : mg "min" = none
  z_range : mg "range" = none
  z_set : mg "set" = none
  z_sorted : mg "sorted" = none
  z_str : mg "str" = none
  z_tuple : mg "tuple" = none
  z_zip : mg "zip" = none
abbrev N_is_whole : List Str := ["thing", "low", "high"]
theorem sc_is_whole : FnScope N_is_whole ["thing", "low", "high"] (defScope s_is_whole) := ⟨rfl, rfl, rfl, by decide +kernel, rfl, by decide +kernel, by decide +kernel⟩
theorem ok_is_whole {P : Program} {w : World} {K : PySem.W.Frag} {mg : Str → Option Value} {base : Heap} (T : Tx K mg) : FnD P w K mg base 1 "is_whole" ["thing", "low", "high"] m_is_whole := by
  obtain ⟨fd, D⟩ := T.f_is_whole
  exact fn_mk D T.g_is_whole sc_is_whole (fun _ _ _ _ _ _ us hl => match us, hl with | [_, _, _], _ => rfl) (by decide) fun cdv A outer s H V E hr => (pms_one (pms_ret (pm_and (pm_isi .int T.z_isinstance T.z_int (pm_var 0)) (pm_and (pm_not (pm_isi .bool T.z_isinstance T.z_bool (pm_var 0))) (pm_one (pm_chain op_le od_le op_le od_le (pm_var 1) (pm_var 0) (pm_var 2)))))))
abbrev N_is_word : List Str := ["thing", "sign"]
theorem sc_is_word : FnScope N_is_word ["thing"] (defScope s_is_word) := ⟨rfl, rfl, rfl, by decide +kernel, rfl, by decide +kernel, by decide +kernel⟩
theorem ok_is_word {P : Program} {w : World} {K : PySem.W.Frag} {mg : Str → Option Value} {base : Heap} (T : Tx K mg) : FnD P w K mg base 1 "is_word" ["thing"] m_is_word := by
  obtain ⟨fd, D⟩ := T.f_is_word
  exact fn_mk D T.g_is_word sc_is_word (fun _ _ _ _ _ _ us hl => match us, hl with | [_], _ => rfl) (by decide) fun cdv A outer s H V E hr => (pms_one (pms_ret (pm_and (pm_isi .str T.z_isinstance T.z_str (pm_var 0)) (pm_and (pm_chain op_le od_le op_le od_le pm_int (pm_callB call_len cd_len T.z_len (pma_cons (pm_var 0) pma_nil)) pm_int) (pm_one (pm_callB (cr_all rfl) cd_all T.z_all (pma_cons (pm_lc [("sign", 1)] (pmi_seq (pm_var 0)) (blkOk_by (N := N_is_word) (sc := defScope s_is_word) (by decide +kernel)) sc_is_word.nd (fun _ _ _ _ _ => (pmg_name 1 sc_is_word.nd)) (fun _ _ _ _ _ => pmts_nil) (fun _ _ _ _ _ => (pm_cmp (op_inAll (u65 hr)) od_in (pm_var 1) (pm_gstr T.c_SMALL)))) pma_nil)))))))
abbrev N_rise : List Str := ["rows", "one", "other"]
theorem sc_rise : FnScope N_rise ["rows"] (defScope s_rise) := ⟨rfl, rfl, rfl, by decide +kernel, rfl, by decide +kernel, by decide +kernel⟩
theorem ok_rise {P : Program} {w : World} {K : PySem.W.Frag} {mg : Str → Option Value} {base : Heap} (T : Tx K mg) : FnD P w K mg base 1 "rise" ["rows"] m_rise := by
  obtain ⟨fd, D⟩ := T.f_rise
  exact fn_mk D T.g_rise sc_rise (fun _ _ _ _ _ _ us hl => match us, hl with | [_], _ => rfl) (by decide) fun cdv A outer s H V E hr => (pms_one (pms_ret (pm_callB (cr_all rfl) cd_all T.z_all (pma_cons (pm_lc [("one", 1), ("other", 2)] (pmi_zip T.z_zip (pma_cons (pm_var 0) (pma_cons (pm_slice (pm_var 0) (pmo_some pm_int) pmo_none) pma_nil))) (blkOk_by (N := N_rise) (sc := defScope s_rise) (by decide +kernel)) sc_rise.nd (fun _ _ _ _ _ => (pmg_tup (pmgs_cons (pmg_name 1 sc_rise.nd) (pmgs_cons (pmg_name 2 sc_rise.nd) pmgs_nil)) (gsC_len (gsC_len (fun _ _ _ h => gsN_len h))))) (fun _ _ _ _ _ => pmts_nil) (fun _ _ _ _ _ => (pm_cmp (op_ltAll hr.units0) od_lt (pm_var 1) (pm_var 2)))) pma_nil))))
abbrev N_are_lines : List Str := ["thing", "size", "many", "one"]
theorem sc_are_lines : FnScope N_are_lines ["thing", "size", "many"] (defScope s_are_lines) := ⟨rfl, rfl, rfl, by decide +kernel, rfl, by decide +kernel, by decide +kernel⟩
theorem ok_are_lines {P : Program} {w : World} {K : PySem.W.Frag} {mg : Str → Option Value} {base : Heap} (T : Tx K mg) : FnD P w K mg base 2 "are_lines" ["thing", "size", "many"] m_are_lines := by
  obtain ⟨fd, D⟩ := T.f_are_lines
  exact fn_mk D T.g_are_lines sc_are_lines (fun _ _ _ _ _ _ us hl => match us, hl with | [_, _, _], _ => rfl) (by decide) fun cdv A outer s H V E hr => (pms_one (pms_ret (pm_and (pm_isi .tuple T.z_isinstance T.z_tuple (pm_var 0)) (pm_and (pm_cmp (op_eqD hr.units) od_eq (pm_callB call_len cd_len T.z_len (pma_cons (pm_var 0) pma_nil)) (pm_var 1)) (pm_one (pm_callB (cr_all rfl) cd_all T.z_all (pma_cons (pm_lc [("one", 3)] (pmi_seq (pm_var 0)) (blkOk_by (N := N_are_lines) (sc := defScope s_are_lines) (by decide +kernel)) sc_are_lines.nd (fun _ _ _ _ _ => (pmg_name 3 sc_are_lines.nd)) (fun _ _ _ _ _ => pmts_nil) (fun _ _ _ _ _ => (pm_call (ok_is_whole T) (hr.mono (by decide)) tk_nox (pma_cons (pm_var 3) (pma_cons pm_int (pma_cons (pm_op op_sub od_sub (pm_var 2) pm_int) pma_nil)))))) pma_nil)))))))
abbrev N_is_ear : List Str := ["thing"]
theorem sc_is_ear : FnScope N_is_ear ["thing"] (defScope s_is_ear) := ⟨rfl, rfl, rfl, by decide +kernel, rfl, by decide +kernel, by decide +kernel⟩
theorem ok_is_ear {P : Program} {w : World} {K : PySem.W.Frag} {mg : Str → Option Value} {base : Heap} (T : Tx K mg) : FnD P w K mg base 2 "is_ear" ["thing"] m_is_ear := by
  obtain ⟨fd, D⟩ := T.f_is_ear
  exact fn_mk D T.g_is_ear sc_is_ear (fun _ _ _ _ _ _ us hl => match us, hl with | [_], _ => rfl) (by decide) fun cdv A outer s H V E hr => (pms_one (pms_ret (pm_and (pm_isi .tuple T.z_isinstance T.z_tuple (pm_var 0)) (pm_and (pm_cmp (op_eqD hr.units) od_eq (pm_callB call_len cd_len T.z_len (pma_cons (pm_var 0) pma_nil)) pm_int) (pm_and (pm_call (ok_is_word T) (hr.mono (by decide)) tk_fn (pma_cons (pm_ix ix_seq od_ix (pm_var 0) pm_int) pma_nil)) (pm_one (pm_call (ok_is_whole T) (hr.mono (by decide)) tk_fn (pma_cons (pm_ix ix_seq od_ix (pm_var 0) pm_int) (pma_cons pm_int (pma_cons pm_int pma_nil))))))))))
abbrev N_are_ears : List Str := ["thing", "one"]
theorem sc_are_ears : FnScope N_are_ears ["thing"] (defScope s_are_ears) := ⟨rfl, rfl, rfl, by decide +kernel, rfl, by decide +kernel, by decide +kernel⟩
theorem ok_are_ears {P : Program} {w : World} {K : PySem.W.Frag} {mg : Str → Option Value} {base : Heap} (T : Tx K mg) : FnD P w K mg base 3 "are_ears" ["thing"] m_are_ears := by
  obtain ⟨fd, D⟩ := T.f_are_ears
  exact fn_mk D T.g_are_ears sc_are_ears (fun _ _ _ _ _ _ us hl => match us, hl with | [_], _ => rfl) (by decide) fun cdv A outer s H V E hr => (pms_one (pms_ret (pm_and (pm_isi .tuple T.z_isinstance T.z_tuple (pm_var 0)) (pm_and (pm_cmp op_le od_le (pm_callB call_len cd_len T.z_len (pma_cons (pm_var 0) pma_nil)) pm_int) (pm_and (pm_callB (cr_all rfl) cd_all T.z_all (pma_cons (pm_lc [("one", 1)] (pmi_seq (pm_var 0)) (blkOk_by (N := N_are_ears) (sc := defScope s_are_ears) (by decide +kernel)) sc_are_ears.nd (fun _ _ _ _ _ => (pmg_name 1 sc_are_ears.nd)) (fun _ _ _ _ _ => pmts_nil) (fun _ _ _ _ _ => (pm_call (ok_is_ear T) (hr.mono (by decide)) tk_nox (pma_cons (pm_var 1) pma_nil)))) pma_nil)) (pm_one (pm_call (ok_rise T) (hr.mono (by decide)) tk_fn (pma_cons (pm_var 0) pma_nil))))))))
abbrev N_places_for : List Str := ["many", "ears"]
theorem sc_places_for : FnScope N_places_for ["many", "ears"] (defScope s_places_for) := ⟨rfl, rfl, rfl, by decide +kernel, rfl, by decide +kernel, by decide +kernel⟩
theorem ok_places_for {P : Program} {w : World} {K : PySem.W.Frag} {mg : Str → Option Value} {base : Heap} (T : Tx K mg) : FnD P w K mg base 1 "places_for" ["many", "ears"] m_places_for := by
  obtain ⟨fd, D⟩ := T.f_places_for
  exact fn_mk D T.g_places_for sc_places_for (fun _ _ _ _ _ _ us hl => match us, hl with | [_, _], _ => rfl) (by decide) fun cdv A outer s H V E hr => (pms_one (pms_ret (pm_ix ix_seq od_ix (pm_lst (pma_cons pm_int (pma_cons (pm_var 0) (pma_cons (pm_op op_mulD od_mul (pm_var 0) (pm_var 0)) pma_nil)))) (pm_callB call_len cd_len T.z_len (pma_cons (pm_var 1) pma_nil)))))
abbrev N_is_singer : List Str := ["thing", "many"]
theorem sc_is_singer : FnScope N_is_singer ["thing", "many"] (defScope s_is_singer) := ⟨rfl, rfl, rfl, by decide +kernel, rfl, by decide +kernel, by decide +kernel⟩
theorem ok_is_singer {P : Program} {w : World} {K : PySem.W.Frag} {mg : Str → Option Value} {base : Heap} (T : Tx K mg) : FnD P w K mg base 4 "is_singer" ["thing", "many"] m_is_singer := by
  obtain ⟨fd, D⟩ := T.f_is_singer
  exact fn_mk D T.g_is_singer sc_is_singer (fun _ _ _ _ _ _ us hl => match us, hl with | [_, _], _ => rfl) (by decide) fun cdv A outer s H V E hr => (pms_cons (pms_if (pmt_w (pmw_or (pmt_not (pmt_val (pm_isi .tuple T.z_isinstance T.z_tuple (pm_var 0)))) (pmw_or (pmt_cmp (op_neD hr.units) od_ne (pm_callB call_len cd_len T.z_len (pma_cons (pm_var 0) pma_nil)) pm_int) (pmw_or (pmt_not (pmt_val (pm_call (ok_is_word T) (hr.mono (by decide)) tk_fn (pma_cons (pm_ix ix_seq od_ix (pm_var 0) pm_int) pma_nil)))) (pmw_or1 (pmt_not (pmt_val (pm_call (ok_are_ears T) (hr.mono (by decide)) tk_fn (pma_cons (pm_ix ix_seq od_ix (pm_var 0) pm_int) pma_nil))))))))) (pms_one (pms_ret pm_bl)) pms_nil)
  (pms_one (pms_ret (pm_call (ok_are_lines T) (hr.mono (by decide)) tk_fn (pma_cons (pm_ix ix_seq od_ix (pm_var 0) pm_int) (pma_cons (pm_call (ok_places_for T) (hr.mono (by decide)) tk_fn (pma_cons (pm_var 1) (pma_cons (pm_ix ix_seq od_ix (pm_var 0) pm_int) pma_nil))) (pma_cons (pm_var 1) pma_nil)))))))
abbrev N_is_choir : List Str := ["thing", "many", "singers", "some", "one", "ear"]
theorem sc_is_choir : FnScope N_is_choir ["thing"] (defScope s_is_choir) := ⟨rfl, rfl, rfl, by decide +kernel, rfl, by decide +kernel, by decide +kernel⟩
theorem ok_is_choir {P : Program} {w : World} {K : PySem.W.Frag} {mg : Str → Option Value} {base : Heap} (T : Tx K mg) : FnD P w K mg base 5 "is_choir" ["thing"] m_is_choir := by
  obtain ⟨fd, D⟩ := T.f_is_choir
  exact fn_mk D T.g_is_choir sc_is_choir (fun _ _ _ _ _ _ us hl => match us, hl with | [_], _ => rfl) (by decide) fun cdv A outer s H V E hr => (pms_cons (pms_if (pmt_w (pmw_or (pmt_not (pmt_val (pm_isi .tuple T.z_isinstance T.z_tuple (pm_var 0)))) (pmw_or (pmt_cmp (op_neD hr.units) od_ne (pm_callB call_len cd_len T.z_len (pma_cons (pm_var 0) pma_nil)) pm_int) (pmw_or1 (pmt_not (pmt_val (pm_call (ok_is_whole T) (hr.mono (by decide)) tk_fn (pma_cons (pm_ix ix_seq od_ix (pm_var 0) pm_int) (pma_cons pm_int (pma_cons pm_int pma_nil)))))))))) (pms_one (pms_ret pm_bl)) pms_nil)
  (pms_cons (pms_asg (pm_var 0) (pmg_tup (pmgs_cons (pmg_name 1 sc_is_choir.nd) (pmgs_cons (pmg_name 2 sc_is_choir.nd) pmgs_nil)) (gsC_len (gsC_len (fun _ _ _ h => gsN_len h)))))
  (pms_cons (pms_if (pmt_w (pmw_or (pmt_not (pmt_val (pm_isi .tuple T.z_isinstance T.z_tuple (pm_var 2)))) (pmw_or1 (pmt_not (pmt_chain op_le od_le op_le od_le pm_int (pm_callB call_len cd_len T.z_len (pma_cons (pm_var 2) pma_nil)) pm_int))))) (pms_one (pms_ret pm_bl)) pms_nil)
  (pms_cons (pms_if (pmt_w (pmw_or (pmt_not (pmt_val (pm_callB (cr_all rfl) cd_all T.z_all (pma_cons (pm_lc [("one", 4)] (pmi_seq (pm_var 2)) (blkOk_by (N := N_is_choir) (sc := defScope s_is_choir) (by decide +kernel)) sc_is_choir.nd (fun _ _ _ _ _ => (pmg_name 4 sc_is_choir.nd)) (fun _ _ _ _ _ => pmts_nil) (fun _ _ _ _ _ => (pm_call (ok_is_singer T) (hr.mono (by decide)) tk_nox (pma_cons (pm_var 4) (pma_cons (pm_var 1) pma_nil))))) pma_nil)))) (pmw_or1 (pmt_not (pmt_val (pm_call (ok_rise T) (hr.mono (by decide)) tk_fn (pma_cons (pm_lc [("one", 4)] (pmi_seq (pm_var 2)) (blkOk_by (N := N_is_choir) (sc := defScope s_is_choir) (by decide +kernel)) sc_is_choir.nd (fun _ _ _ _ _ => (pmg_name 4 sc_is_choir.nd)) (fun _ _ _ _ _ => pmts_nil) (fun _ _ _ _ _ => (pm_ix ix_seq od_ix (pm_var 4) pm_int))) pma_nil))))))) (pms_one (pms_ret pm_bl)) pms_nil)
  (pms_cons (pms_set 3 (pm_lc [("one", 4)] (pmi_seq (pm_var 2)) (blkOk_by (N := N_is_choir) (sc := defScope s_is_choir) (by decide +kernel)) sc_is_choir.nd (fun _ _ _ _ _ => (pmg_name 4 sc_is_choir.nd)) (fun _ _ _ _ _ => pmts_nil) (fun _ _ _ _ _ => (pm_ix ix_seq od_ix (pm_var 4) pm_int))) sc_is_choir.nd)
  (pms_one (pms_ret (pm_callB (cr_all rfl) cd_all T.z_all (pma_cons (pm_lc2 [("one", 4), ("ear", 5)] [5] (pmi_seq (pm_var 2)) (blkOk_by (N := N_is_choir) (sc := defScope s_is_choir) (by decide +kernel)) sc_is_choir.nd (fun _ _ _ _ _ => (pmg_name 4 sc_is_choir.nd)) (fun _ _ _ _ _ => pmts_nil) (fun _ _ _ _ _ => (pmi_seq (pm_ix ix_seq od_ix (pm_var 4) pm_int))) (fun _ _ _ _ _ => (pmg_name 5 sc_is_choir.nd)) (fun _ _ _ _ _ => pmts_nil) (fun _ _ _ _ _ => (pm_cmp (op_inAll (u65 hr)) od_in (pm_ix ix_seq od_ix (pm_var 5) pm_int) (pm_var 3)))) pma_nil)))))))))
abbrev N_need_choir : List Str := ["thing"]
theorem sc_need_choir : FnScope N_need_choir ["thing"] (defScope s_need_choir) := ⟨rfl, rfl, rfl, by decide +kernel, rfl, by decide +kernel, by decide +kernel⟩
theorem ok_need_choir {P : Program} {w : World} {K : PySem.W.Frag} {mg : Str → Option Value} {base : Heap} (T : Tx K mg) : FnD P w K mg base 6 "need_choir" ["thing"] m_need_choir := by
  obtain ⟨fd, D⟩ := T.f_need_choir
  exact fn_mk D T.g_need_choir sc_need_choir (fun _ _ _ _ _ _ us hl => match us, hl with | [_], _ => rfl) (by decide) fun cdv A outer s H V E hr => (pms_one (pms_if (pmt_not (pmt_val (pm_call (ok_is_choir T) (hr.mono (by decide)) tk_fn (pma_cons (pm_var 0) pma_nil)))) (pms_one (pms_raise T.x_BadChoir tk_fn)) pms_nil))
abbrev N_all_names : List Str := ["choir", "one"]
theorem sc_all_names : FnScope N_all_names ["choir"] (defScope s_all_names) := ⟨rfl, rfl, rfl, by decide +kernel, rfl, by decide +kernel, by decide +kernel⟩
theorem ok_all_names {P : Program} {w : World} {K : PySem.W.Frag} {mg : Str → Option Value} {base : Heap} (T : Tx K mg) : FnD P w K mg base 1 "all_names" ["choir"] m_all_names := by
  obtain ⟨fd, D⟩ := T.f_all_names
  exact fn_mk D T.g_all_names sc_all_names (fun _ _ _ _ _ _ us hl => match us, hl with | [_], _ => rfl) (by decide) fun cdv A outer s H V E hr => (pms_one (pms_ret (pm_lc [("one", 1)] (pmi_seq (pm_ix ix_seq od_ix (pm_var 0) pm_int)) (blkOk_by (N := N_all_names) (sc := defScope s_all_names) (by decide +kernel)) sc_all_names.nd (fun _ _ _ _ _ => (pmg_name 1 sc_all_names.nd)) (fun _ _ _ _ _ => pmts_nil) (fun _ _ _ _ _ => (pm_ix ix_seq od_ix (pm_var 1) pm_int)))))
abbrev N_is_good_standing : List Str := ["choir", "thing", "one"]
theorem sc_is_good_standing : FnScope N_is_good_standing ["choir", "thing"] (defScope s_is_good_standing) := ⟨rfl, rfl, rfl, by decide +kernel, rfl, by decide +kernel, by decide +kernel⟩
theorem ok_is_good_standing {P : Program} {w : World} {K : PySem.W.Frag} {mg : Str → Option Value} {base : Heap} (T : Tx K mg) : FnD P w K mg base 3 "is_good_standing" ["choir", "thing"] m_is_good_standing := by
  obtain ⟨fd, D⟩ := T.f_is_good_standing
  exact fn_mk D T.g_is_good_standing sc_is_good_standing (fun _ _ _ _ _ _ us hl => match us, hl with | [_, _], _ => rfl) (by decide) fun cdv A outer s H V E hr => (pms_cons (pms_if (pmt_w (pmw_or (pmt_not (pmt_val (pm_isi .tuple T.z_isinstance T.z_tuple (pm_var 1)))) (pmw_or1 (pmt_cmp (op_neD hr.units) od_ne (pm_callB call_len cd_len T.z_len (pma_cons (pm_var 1) pma_nil)) (pm_callB call_len cd_len T.z_len (pma_cons (pm_ix ix_seq od_ix (pm_var 0) pm_int) pma_nil)))))) (pms_one (pms_ret pm_bl)) pms_nil)
  (pms_one (pms_ret (pm_callB (cr_all rfl) cd_all T.z_all (pma_cons (pm_lc [("one", 2)] (pmi_seq (pm_var 1)) (blkOk_by (N := N_is_good_standing) (sc := defScope s_is_good_standing) (by decide +kernel)) sc_is_good_standing.nd (fun _ _ _ _ _ => (pmg_name 2 sc_is_good_standing.nd)) (fun _ _ _ _ _ => pmts_nil) (fun _ _ _ _ _ => (pm_call (ok_are_lines T) (hr.mono (by decide)) tk_nox (pma_cons (pm_var 2) (pma_cons pm_int (pma_cons (pm_ix ix_seq od_ix (pm_var 0) pm_int) pma_nil)))))) pma_nil)))))
abbrev N_need_standing : List Str := ["choir", "thing"]
theorem sc_need_standing : FnScope N_need_standing ["choir", "thing"] (defScope s_need_standing) := ⟨rfl, rfl, rfl, by decide +kernel, rfl, by decide +kernel, by decide +kernel⟩
theorem ok_need_standing {P : Program} {w : World} {K : PySem.W.Frag} {mg : Str → Option Value} {base : Heap} (T : Tx K mg) : FnD P w K mg base 4 "need_standing" ["choir", "thing"] m_need_standing := by
  obtain ⟨fd, D⟩ := T.f_need_standing
  exact fn_mk D T.g_need_standing sc_need_standing (fun _ _ _ _ _ _ us hl => match us, hl with | [_, _], _ => rfl) (by decide) fun cdv A outer s H V E hr => (pms_one (pms_if (pmt_not (pmt_val (pm_call (ok_is_good_standing T) (hr.mono (by decide)) tk_fn (pma_cons (pm_var 0) (pma_cons (pm_var 1) pma_nil))))) (pms_one (pms_raise T.x_BadStanding tk_fn)) pms_nil))
abbrev N_need_name : List Str := ["choir", "name"]
theorem sc_need_name : FnScope N_need_name ["choir", "name"] (defScope s_need_name) := ⟨rfl, rfl, rfl, by decide +kernel, rfl, by decide +kernel, by decide +kernel⟩
theorem ok_need_name {P : Program} {w : World} {K : PySem.W.Frag} {mg : Str → Option Value} {base : Heap} (T : Tx K mg) : FnD P w K mg base 2 "need_name" ["choir", "name"] m_need_name := by
  obtain ⟨fd, D⟩ := T.f_need_name
  exact fn_mk D T.g_need_name sc_need_name (fun _ _ _ _ _ _ us hl => match us, hl with | [_, _], _ => rfl) (by decide) fun cdv A outer s H V E hr => (pms_one (pms_if (pmt_w (pmw_or (pmt_not (pmt_val (pm_isi .str T.z_isinstance T.z_str (pm_var 1)))) (pmw_or1 (pmt_cmp (op_notInAll (u65 hr)) od_notIn (pm_var 1) (pm_call (ok_all_names T) (hr.mono (by decide)) tk_fn (pma_cons (pm_var 0) pma_nil)))))) (pms_one (pms_raise T.x_BadName tk_fn)) pms_nil))
abbrev N_number_of : List Str := ["choir", "name"]
theorem sc_number_of : FnScope N_number_of ["choir", "name"] (defScope s_number_of) := ⟨rfl, rfl, rfl, by decide +kernel, rfl, by decide +kernel, by decide +kernel⟩
theorem ok_number_of {P : Program} {w : World} {K : PySem.W.Frag} {mg : Str → Option Value} {base : Heap} (T : Tx K mg) : FnD P w K mg base 2 "number_of" ["choir", "name"] m_number_of := by
  obtain ⟨fd, D⟩ := T.f_number_of
  exact fn_mk D T.g_number_of sc_number_of (fun _ _ _ _ _ _ us hl => match us, hl with | [_, _], _ => rfl) (by decide) fun cdv A outer s H V E hr => (pms_one (pms_ret (pm_index (u65 hr) (pm_call (ok_all_names T) (hr.mono (by decide)) tk_fn (pma_cons (pm_var 0) pma_nil)) (pma_cons (pm_var 1) pma_nil))))
abbrev N_heard_by : List Str := ["choir", "standing", "singer", "name", "ago"]
theorem sc_heard_by : FnScope N_heard_by ["choir", "standing", "singer"] (defScope s_heard_by) := ⟨rfl, rfl, rfl, by decide +kernel, rfl, by decide +kernel, by decide +kernel⟩
theorem ok_heard_by {P : Program} {w : World} {K : PySem.W.Frag} {mg : Str → Option Value} {base : Heap} (T : Tx K mg) : FnD P w K mg base 3 "heard_by" ["choir", "standing", "singer"] m_heard_by := by
  obtain ⟨fd, D⟩ := T.f_heard_by
  exact fn_mk D T.g_heard_by sc_heard_by (fun _ _ _ _ _ _ us hl => match us, hl with | [_, _, _], _ => rfl) (by decide) fun cdv A outer s H V E hr => (pms_one (pms_ret (pm_callTy call_tuple_of cd_tuple T.z_tuple (pma_cons (pm_lc [("name", 3), ("ago", 4)] (pmi_seq (pm_ix ix_seq od_ix (pm_var 2) pm_int)) (blkOk_by (N := N_heard_by) (sc := defScope s_heard_by) (by decide +kernel)) sc_heard_by.nd (fun _ _ _ _ _ => (pmg_tup (pmgs_cons (pmg_name 3 sc_heard_by.nd) (pmgs_cons (pmg_name 4 sc_heard_by.nd) pmgs_nil)) (gsC_len (gsC_len (fun _ _ _ h => gsN_len h))))) (fun _ _ _ _ _ => pmts_nil) (fun _ _ _ _ _ => (pm_ix ix_seq od_ix (pm_ix ix_seq od_ix (pm_var 1) (pm_call (ok_number_of T) (hr.mono (by decide)) tk_nox (pma_cons (pm_var 0) (pma_cons (pm_var 3) pma_nil)))) (pm_op op_sub od_sub pm_int (pm_var 4))))) pma_nil))))
abbrev N_place_of : List Str := ["many", "some", "found", "line"]
theorem sc_place_of : FnScope N_place_of ["many", "some"] (defScope s_place_of) := ⟨rfl, rfl, rfl, by decide +kernel, rfl, by decide +kernel, by decide +kernel⟩
theorem ok_place_of {P : Program} {w : World} {K : PySem.W.Frag} {mg : Str → Option Value} {base : Heap} (T : Tx K mg) : FnD P w K mg base 1 "place_of" ["many", "some"] m_place_of := by
  obtain ⟨fd, D⟩ := T.f_place_of
  exact fn_mk D T.g_place_of sc_place_of (fun _ _ _ _ _ _ us hl => match us, hl with | [_, _], _ => rfl) (by decide) fun cdv A outer s H V E hr => (pms_cons (pms_set 2 pm_int sc_place_of.nd)
  (pms_cons (pms_for (passes_of rfl) (pmi_seq (pm_var 1)) (pmg_name 3 sc_place_of.nd)
  (pms_one (pms_set 2 (pm_op op_addD od_add (pm_op op_mulD od_mul (pm_var 2) (pm_var 0)) (pm_var 3)) sc_place_of.nd)))
  (pms_one (pms_ret (pm_var 2)))))
abbrev N_table_line : List Str := ["choir", "standing", "singer"]
theorem sc_table_line : FnScope N_table_line ["choir", "standing", "singer"] (defScope s_table_line) := ⟨rfl, rfl, rfl, by decide +kernel, rfl, by decide +kernel, by decide +kernel⟩
theorem ok_table_line {P : Program} {w : World} {K : PySem.W.Frag} {mg : Str → Option Value} {base : Heap} (T : Tx K mg) : FnD P w K mg base 4 "table_line" ["choir", "standing", "singer"] m_table_line := by
  obtain ⟨fd, D⟩ := T.f_table_line
  exact fn_mk D T.g_table_line sc_table_line (fun _ _ _ _ _ _ us hl => match us, hl with | [_, _, _], _ => rfl) (by decide) fun cdv A outer s H V E hr => (pms_one (pms_ret (pm_ix ix_seq od_ix (pm_ix ix_seq od_ix (pm_var 2) pm_int) (pm_call (ok_place_of T) (hr.mono (by decide)) tk_fn (pma_cons (pm_ix ix_seq od_ix (pm_var 0) pm_int) (pma_cons (pm_call (ok_heard_by T) (hr.mono (by decide)) tk_fn (pma_cons (pm_var 0) (pma_cons (pm_var 1) (pma_cons (pm_var 2) pma_nil)))) pma_nil))))))
abbrev N_all_next : List Str := ["choir", "standing", "singer"]
theorem sc_all_next : FnScope N_all_next ["choir", "standing"] (defScope s_all_next) := ⟨rfl, rfl, rfl, by decide +kernel, rfl, by decide +kernel, by decide +kernel⟩
theorem ok_all_next {P : Program} {w : World} {K : PySem.W.Frag} {mg : Str → Option Value} {base : Heap} (T : Tx K mg) : FnD P w K mg base 5 "all_next" ["choir", "standing"] m_all_next := by
  obtain ⟨fd, D⟩ := T.f_all_next
  exact fn_mk D T.g_all_next sc_all_next (fun _ _ _ _ _ _ us hl => match us, hl with | [_, _], _ => rfl) (by decide) fun cdv A outer s H V E hr => (pms_one (pms_ret (pm_callTy call_tuple_of cd_tuple T.z_tuple (pma_cons (pm_lc [("singer", 2)] (pmi_seq (pm_ix ix_seq od_ix (pm_var 0) pm_int)) (blkOk_by (N := N_all_next) (sc := defScope s_all_next) (by decide +kernel)) sc_all_next.nd (fun _ _ _ _ _ => (pmg_name 2 sc_all_next.nd)) (fun _ _ _ _ _ => pmts_nil) (fun _ _ _ _ _ => (pm_call (ok_table_line T) (hr.mono (by decide)) tk_nox (pma_cons (pm_var 0) (pma_cons (pm_var 1) (pma_cons (pm_var 2) pma_nil)))))) pma_nil))))
abbrev N_behind : List Str := ["standing", "lines", "row", "line"]
theorem sc_behind : FnScope N_behind ["standing", "lines"] (defScope s_behind) := ⟨rfl, rfl, rfl, by decide +kernel, rfl, by decide +kernel, by decide +kernel⟩
theorem ok_behind {P : Program} {w : World} {K : PySem.W.Frag} {mg : Str → Option Value} {base : Heap} (T : Tx K mg) : FnD P w K mg base 1 "behind" ["standing", "lines"] m_behind := by
  obtain ⟨fd, D⟩ := T.f_behind
  exact fn_mk D T.g_behind sc_behind (fun _ _ _ _ _ _ us hl => match us, hl with | [_, _], _ => rfl) (by decide) fun cdv A outer s H V E hr => (pms_one (pms_ret (pm_callTy call_tuple_of cd_tuple T.z_tuple (pma_cons (pm_lc [("row", 2), ("line", 3)] (pmi_zip T.z_zip (pma_cons (pm_var 0) (pma_cons (pm_var 1) pma_nil))) (blkOk_by (N := N_behind) (sc := defScope s_behind) (by decide +kernel)) sc_behind.nd (fun _ _ _ _ _ => (pmg_tup (pmgs_cons (pmg_name 2 sc_behind.nd) (pmgs_cons (pmg_name 3 sc_behind.nd) pmgs_nil)) (gsC_len (gsC_len (fun _ _ _ h => gsN_len h))))) (fun _ _ _ _ _ => pmts_nil) (fun _ _ _ _ _ => (pm_op op_addD od_add (pm_slice (pm_var 2) (pmo_some pm_int) pmo_none) (pm_tup (pma_cons (pm_var 3) pma_nil))))) pma_nil))))
abbrev N_on : List Str := ["choir", "standing"]
theorem sc_on : FnScope N_on ["choir", "standing"] (defScope s_on) := ⟨rfl, rfl, rfl, by decide +kernel, rfl, by decide +kernel, by decide +kernel⟩
theorem ok_on {P : Program} {w : World} {K : PySem.W.Frag} {mg : Str → Option Value} {base : Heap} (T : Tx K mg) : FnD P w K mg base 6 "on" ["choir", "standing"] m_on := by
  obtain ⟨fd, D⟩ := T.f_on
  exact fn_mk D T.g_on sc_on (fun _ _ _ _ _ _ us hl => match us, hl with | [_, _], _ => rfl) (by decide) fun cdv A outer s H V E hr => (pms_one (pms_ret (pm_call (ok_behind T) (hr.mono (by decide)) tk_fn (pma_cons (pm_var 1) (pma_cons (pm_call (ok_all_next T) (hr.mono (by decide)) tk_fn (pma_cons (pm_var 0) (pma_cons (pm_var 1) pma_nil))) pma_nil)))))
abbrev N_do_count : List Str := ["many", "singer", "at", "ears", "table", "other", "some", "line", "pair"]
theorem sc_do_count : FnScope N_do_count ["many", "singer", "at"] (defScope s_do_count) := ⟨rfl, rfl, rfl, by decide +kernel, rfl, by decide +kernel, by decide +kernel⟩
theorem ok_do_count {P : Program} {w : World} {K : PySem.W.Frag} {mg : Str → Option Value} {base : Heap} (T : Tx K mg) : FnD P w K mg base 2 "do_count" ["many", "singer", "at"] m_do_count := by
  obtain ⟨fd, D⟩ := T.f_do_count
  exact fn_mk D T.g_do_count sc_do_count (fun _ _ _ _ _ _ us hl => match us, hl with | [_, _, _], _ => rfl) (by decide) fun cdv A outer s H V E hr => (pms_cons (pms_asg (pm_tup (pma_cons (pm_ix ix_seq od_ix (pm_var 1) pm_int) (pma_cons (pm_ix ix_seq od_ix (pm_var 1) pm_int) pma_nil))) (pmg_tup (pmgs_cons (pmg_name 3 sc_do_count.nd) (pmgs_cons (pmg_name 4 sc_do_count.nd) pmgs_nil)) (gsC_len (gsC_len (fun _ _ _ h => gsN_len h)))))
  (pms_cons (pms_for (passes_of rfl) (pmi_range1 T.z_range (pma_cons (pm_if (pmt_cmp (op_eqD hr.units) od_eq (pm_callB call_len cd_len T.z_len (pma_cons (pm_var 3) pma_nil)) pm_int) (pm_var 0) pm_int) pma_nil)) (pmg_name 5 sc_do_count.nd)
  (pms_cons (pms_setLc 6 [("line", 7)] (pmi_range1 T.z_range (pma_cons (pm_var 0) pma_nil)) (blkOk_by (N := N_do_count) (sc := defScope s_do_count) (by decide +kernel)) sc_do_count.nd (fun _ _ _ _ _ => (pmg_name 7 sc_do_count.nd)) (fun _ _ _ _ _ => pmts_nil) (fun _ _ _ _ _ => (pm_if (pmt_cmp (op_eqD hr.units) od_eq (pm_var 2) pm_int) (pm_tup (pma_cons (pm_var 7) (pma_cons (pm_var 5) pma_nil))) (pm_tup (pma_cons (pm_var 5) (pma_cons (pm_var 7) pma_nil))))))
  (pms_one (pms_if (pmt_cmp op_gt od_gt (pm_setLen T.z_len T.z_set (pm_lc [("pair", 8)] (pmi_seq (pm_var 6)) (blkOk_by (N := N_do_count) (sc := defScope s_do_count) (by decide +kernel)) sc_do_count.nd (fun _ _ _ _ _ => (pmg_name 8 sc_do_count.nd)) (fun _ _ _ _ _ => pmts_nil) (fun _ _ _ _ _ => (pm_ix ix_seq od_ix (pm_var 4) (pm_call (ok_place_of T) (hr.mono (by decide)) tk_nox (pma_cons (pm_var 0) (pma_cons (pm_slice (pm_var 8) pmo_none (pmo_some (pm_callB call_len cd_len T.z_len (pma_cons (pm_var 3) pma_nil)))) pma_nil))))))) pm_int) (pms_one (pms_ret pm_bl)) pms_nil))))
  (pms_one (pms_ret pm_bl))))
abbrev N_ears_that_count : List Str := ["many", "singer", "at", "ear"]
theorem sc_ears_that_count : FnScope N_ears_that_count ["many", "singer"] (defScope s_ears_that_count) := ⟨rfl, rfl, rfl, by decide +kernel, rfl, by decide +kernel, by decide +kernel⟩
theorem ok_ears_that_count {P : Program} {w : World} {K : PySem.W.Frag} {mg : Str → Option Value} {base : Heap} (T : Tx K mg) : FnD P w K mg base 3 "ears_that_count" ["many", "singer"] m_ears_that_count := by
  obtain ⟨fd, D⟩ := T.f_ears_that_count
  exact fn_mk D T.g_ears_that_count sc_ears_that_count (fun _ _ _ _ _ _ us hl => match us, hl with | [_, _], _ => rfl) (by decide) fun cdv A outer s H V E hr => (pms_one (pms_ret (pm_callTy call_tuple_of cd_tuple T.z_tuple (pma_cons (pm_lc [("at", 2), ("ear", 3)] (pmi_enum T.z_enumerate (pma_cons (pm_ix ix_seq od_ix (pm_var 1) pm_int) pma_nil)) (blkOk_by (N := N_ears_that_count) (sc := defScope s_ears_that_count) (by decide +kernel)) sc_ears_that_count.nd (fun _ _ _ _ _ => (pmg_tup (pmgs_cons (pmg_name 2 sc_ears_that_count.nd) (pmgs_cons (pmg_name 3 sc_ears_that_count.nd) pmgs_nil)) (gsC_len (gsC_len (fun _ _ _ h => gsN_len h))))) (fun _ _ _ _ _ => (pmts_one (pmt_val (pm_call (ok_do_count T) (hr.mono (by decide)) tk_nox (pma_cons (pm_var 0) (pma_cons (pm_var 1) (pma_cons (pm_var 2) pma_nil))))))) (fun _ _ _ _ _ => (pm_var 3))) pma_nil))))
abbrev N_lean_singer : List Str := ["many", "singer", "name", "ears", "table", "left", "places", "line", "place"]
theorem sc_lean_singer : FnScope N_lean_singer ["many", "singer"] (defScope s_lean_singer) := ⟨rfl, rfl, rfl, by decide +kernel, rfl, by decide +kernel, by decide +kernel⟩
theorem ok_lean_singer {P : Program} {w : World} {K : PySem.W.Frag} {mg : Str → Option Value} {base : Heap} (T : Tx K mg) : FnD P w K mg base 4 "lean_singer" ["many", "singer"] m_lean_singer := by
  obtain ⟨fd, D⟩ := T.f_lean_singer
  exact fn_mk D T.g_lean_singer sc_lean_singer (fun _ _ _ _ _ _ us hl => match us, hl with | [_, _], _ => rfl) (by decide) fun cdv A outer s H V E hr => (pms_cons (pms_asg (pm_var 1) (pmg_tup (pmgs_cons (pmg_name 2 sc_lean_singer.nd) (pmgs_cons (pmg_name 3 sc_lean_singer.nd) (pmgs_cons (pmg_name 4 sc_lean_singer.nd) pmgs_nil))) (gsC_len (gsC_len (gsC_len (fun _ _ _ h => gsN_len h))))))
  (pms_cons (pms_set 5 (pm_call (ok_ears_that_count T) (hr.mono (by decide)) tk_fn (pma_cons (pm_var 0) (pma_cons (pm_var 1) pma_nil))) sc_lean_singer.nd)
  (pms_cons (pms_if (pmt_cmp (op_eqD hr.units) od_eq (pm_var 5) (pm_var 3)) (pms_one (pms_ret (pm_var 1))) pms_nil)
  (pms_cons (pms_if (pmt_cmp (op_eqD hr.units) od_eq (pm_var 5) (pm_tup pma_nil)) (pms_one (pms_ret (pm_tup (pma_cons (pm_var 2) (pma_cons (pm_tup pma_nil) (pma_cons (pm_slice (pm_var 4) pmo_none (pmo_some pm_int)) pma_nil)))))) pms_nil)
  (pms_cons (pms_setLc 6 [("line", 7)] (pmi_range1 T.z_range (pma_cons (pm_var 0) pma_nil)) (blkOk_by (N := N_lean_singer) (sc := defScope s_lean_singer) (by decide +kernel)) sc_lean_singer.nd (fun _ _ _ _ _ => (pmg_name 7 sc_lean_singer.nd)) (fun _ _ _ _ _ => pmts_nil) (fun _ _ _ _ _ => (pm_if (pmt_cmp (op_eqD hr.units) od_eq (pm_ix ix_seq od_ix (pm_var 5) pm_int) (pm_ix ix_seq od_ix (pm_var 3) pm_int)) (pm_op op_mulD od_mul (pm_var 7) (pm_var 0)) (pm_var 7))))
  (pms_one (pms_ret (pm_tup (pma_cons (pm_var 2) (pma_cons (pm_var 5) (pma_cons (pm_callTy call_tuple_of cd_tuple T.z_tuple (pma_cons (pm_lc [("place", 8)] (pmi_seq (pm_var 6)) (blkOk_by (N := N_lean_singer) (sc := defScope s_lean_singer) (by decide +kernel)) sc_lean_singer.nd (fun _ _ _ _ _ => (pmg_name 8 sc_lean_singer.nd)) (fun _ _ _ _ _ => pmts_nil) (fun _ _ _ _ _ => (pm_ix ix_seq od_ix (pm_var 4) (pm_var 8)))) pma_nil)) pma_nil)))))))))))
abbrev N_leaned : List Str := ["choir", "singer"]
theorem sc_leaned : FnScope N_leaned ["choir"] (defScope s_leaned) := ⟨rfl, rfl, rfl, by decide +kernel, rfl, by decide +kernel, by decide +kernel⟩
theorem ok_leaned {P : Program} {w : World} {K : PySem.W.Frag} {mg : Str → Option Value} {base : Heap} (T : Tx K mg) : FnD P w K mg base 5 "leaned" ["choir"] m_leaned := by
  obtain ⟨fd, D⟩ := T.f_leaned
  exact fn_mk D T.g_leaned sc_leaned (fun _ _ _ _ _ _ us hl => match us, hl with | [_], _ => rfl) (by decide) fun cdv A outer s H V E hr => (pms_one (pms_ret (pm_tup (pma_cons (pm_ix ix_seq od_ix (pm_var 0) pm_int) (pma_cons (pm_callTy call_tuple_of cd_tuple T.z_tuple (pma_cons (pm_lc [("singer", 1)] (pmi_seq (pm_ix ix_seq od_ix (pm_var 0) pm_int)) (blkOk_by (N := N_leaned) (sc := defScope s_leaned) (by decide +kernel)) sc_leaned.nd (fun _ _ _ _ _ => (pmg_name 1 sc_leaned.nd)) (fun _ _ _ _ _ => pmts_nil) (fun _ _ _ _ _ => (pm_call (ok_lean_singer T) (hr.mono (by decide)) tk_nox (pma_cons (pm_ix ix_seq od_ix (pm_var 0) pm_int) (pma_cons (pm_var 1) pma_nil))))) pma_nil)) pma_nil)))))
abbrev N_lean : List Str := ["choir"]
theorem sc_lean : FnScope N_lean ["choir"] (defScope s_lean) := ⟨rfl, rfl, rfl, by decide +kernel, rfl, by decide +kernel, by decide +kernel⟩
theorem ok_lean {P : Program} {w : World} {K : PySem.W.Frag} {mg : Str → Option Value} {base : Heap} (T : Tx K mg) : FnD P w K mg base 7 "lean" ["choir"] m_lean := by
  obtain ⟨fd, D⟩ := T.f_lean
  exact fn_mk D T.g_lean sc_lean (fun _ _ _ _ _ _ us hl => match us, hl with | [_], _ => rfl) (by decide) fun cdv A outer s H V E hr => (pms_cons (pms_expr (pm_call (ok_need_choir T) (hr.mono (by decide)) tk_fn (pma_cons (pm_var 0) pma_nil)))
  (pms_one (pms_ret (pm_call (ok_leaned T) (hr.mono (by decide)) tk_fn (pma_cons (pm_var 0) pma_nil)))))
abbrev N_all_soonest : List Str := ["choir", "name", "found", "ways", "singer", "work", "here", "beats", "one", "other", "ago", "ear"]
theorem sc_all_soonest : FnScope N_all_soonest ["choir", "name"] (defScope s_all_soonest) := ⟨rfl, rfl, rfl, by decide +kernel, rfl, by decide +kernel, by decide +kernel⟩
theorem ok_all_soonest {P : Program} {w : World} {K : PySem.W.Frag} {mg : Str → Option Value} {base : Heap} (T : Tx K mg) (LM : HD.LamKs K mg base lams) : FnD P w K mg base 6 "all_soonest" ["choir", "name"] m_all_soonest := by
  obtain ⟨fd, D⟩ := T.f_all_soonest
  exact HD.fn_mkC D T.g_all_soonest sc_all_soonest (fun _ _ _ _ _ _ us hl => match us, hl with | [_, _], _ => rfl) (by decide) (LM _ (by decide)) fun cdv c Pt A outer s H V E LA hr => (pms_cons (pms_par2 2 3 (pmx_ow pmf_dnew (pmx_sh (pm_lst pma_nil) pmx_nil)) sc_all_soonest.nd)
  (pms_cons (pms_for (passes_of rfl) (pmi_seq (pm_ix ix_seq od_ix (pm_call (ok_leaned T) (hr.mono (by decide)) tk_fn (pma_cons (pm_var 0) pma_nil)) pm_int)) (pmg_name 4 sc_all_soonest.nd)
  (pms_one (pms_set 3 (pm_op op_addD od_add (pm_var 3) (pm_lc [("ear", 11)] (pmi_seq (pm_ix ix_seq od_ix (pm_var 4) pm_int)) (blkOk_by (N := N_all_soonest) (sc := defScope s_all_soonest) (by decide +kernel)) sc_all_soonest.nd (fun _ _ _ _ _ => (pmg_name 11 sc_all_soonest.nd)) (fun _ _ _ _ _ => pmts_nil) (fun _ _ _ _ _ => (pm_tup (pma_cons (pm_ix ix_seq od_ix (pm_var 11) pm_int) (pma_cons (pm_ix ix_seq od_ix (pm_var 4) pm_int) (pma_cons (pm_ix ix_seq od_ix (pm_var 11) pm_int) pma_nil))))))) sc_all_soonest.nd)))
  (pms_cons (pms_own 5 (pma_cons (pm_tup (pma_cons (pm_var 1) (pma_cons pm_int pma_nil))) pma_nil) sc_all_soonest.nd)
  (pms_cons (pms_while 100000 (passes_of rfl) (pmt_brw false (pmt_cmp (op_neD hr.units) od_ne (pm_var 5) (pm_lst pma_nil)))
  (pms_cons (pms_asg (pm_brw false (HD.pm_minK (k := 0) (is := [8]) (ps := ["one"]) T.z_min (pm_var 5) LA rfl (hr.mono (by decide)) (HD.lamP_by (sc := defScope s_all_soonest) (by decide +kernel)) rfl sc_all_soonest.nd (fun A outer s H f c' H' V hr => (pm_tup (pma_cons (pm_ix ix_seq od_ix (pm_var 8) pm_int) (pma_cons (pm_ix ix_seq od_ix (pm_var 8) pm_int) pma_nil)))) (fun _ _ _ _ _ us hl => match us, hl with | [_], _ => rfl))) (pmg_tup (pmgs_cons (pmg_name 6 sc_all_soonest.nd) (pmgs_cons (pmg_name 7 sc_all_soonest.nd) pmgs_nil)) (gsC_len (gsC_len (fun _ _ _ h => gsN_len h)))))
  (pms_cons (pms_rem 5 (u65 hr) (pm_tup (pma_cons (pm_var 6) (pma_cons (pm_var 7) pma_nil))))
  (pms_one (pms_for (passes_of rfl) (pmi_seq (pm_var 3)) (pmg_tup (pmgs_cons (pmg_name 8 sc_all_soonest.nd) (pmgs_cons (pmg_name 9 sc_all_soonest.nd) (pmgs_cons (pmg_name 10 sc_all_soonest.nd) pmgs_nil))) (gsC_len (gsC_len (gsC_len (fun _ _ _ h => gsN_len h)))))
  (pms_one (pms_if (pmt_brw false (pmt_w (pmw_and (pmt_cmp (op_eqD hr.units) od_eq (pm_var 8) (pm_var 6)) (pmw_and1 (pmt_w (pmw_or (pmt_cmp (op_notInX hr.units) od_notInX (pm_var 9) (pm_var 2)) (pmw_or1 (pmt_cmp (op_ltAll hr.units0) od_lt (pm_op op_addD od_add (pm_var 7) (pm_var 10)) (pm_dix hr.units (pm_var 2) (pm_var 9)))))))))) (pms_cons (pms_dset 2 hr.units (pm_op op_addD od_add (pm_var 7) (pm_var 10)) (pm_var 9))
  (pms_one (pms_app 5 (pm_tup (pma_cons (pm_var 9) (pma_cons (pm_op op_addD od_add (pm_var 7) (pm_var 10)) pma_nil)))))) pms_nil)))))))
  (pms_one (pms_dem false (pms_ret (pm_var 2))))))))
abbrev N_soonest : List Str := ["choir", "one", "other"]
theorem sc_soonest : FnScope N_soonest ["choir", "one", "other"] (defScope s_soonest) := ⟨rfl, rfl, rfl, by decide +kernel, rfl, by decide +kernel, by decide +kernel⟩
theorem ok_soonest {P : Program} {w : World} {K : PySem.W.Frag} {mg : Str → Option Value} {base : Heap} (T : Tx K mg) (LM : HD.LamKs K mg base lams) : FnD P w K mg base 7 "soonest" ["choir", "one", "other"] m_soonest := by
  obtain ⟨fd, D⟩ := T.f_soonest
  exact fn_mk D T.g_soonest sc_soonest (fun _ _ _ _ _ _ us hl => match us, hl with | [_, _, _], _ => rfl) (by decide) fun cdv A outer s H V E hr => (pms_cons (pms_expr (pm_call (ok_need_choir T) (hr.mono (by decide)) tk_fn (pma_cons (pm_var 0) pma_nil)))
  (pms_cons (pms_expr (pm_call (ok_need_name T) (hr.mono (by decide)) tk_fn (pma_cons (pm_var 0) (pma_cons (pm_var 1) pma_nil))))
  (pms_cons (pms_expr (pm_call (ok_need_name T) (hr.mono (by decide)) tk_fn (pma_cons (pm_var 0) (pma_cons (pm_var 2) pma_nil))))
  (pms_one (pms_ret (pm_dget1 hr.units (pm_call (ok_all_soonest T LM) (hr.mono (by decide)) tk_fn (pma_cons (pm_var 0) (pma_cons (pm_var 1) pma_nil))) (pm_var 2)))))))
abbrev N_reaches : List Str := ["choir", "name"]
theorem sc_reaches : FnScope N_reaches ["choir", "name"] (defScope s_reaches) := ⟨rfl, rfl, rfl, by decide +kernel, rfl, by decide +kernel, by decide +kernel⟩
theorem ok_reaches {P : Program} {w : World} {K : PySem.W.Frag} {mg : Str → Option Value} {base : Heap} (T : Tx K mg) (LM : HD.LamKs K mg base lams) : FnD P w K mg base 7 "reaches" ["choir", "name"] m_reaches := by
  obtain ⟨fd, D⟩ := T.f_reaches
  exact fn_mk D T.g_reaches sc_reaches (fun _ _ _ _ _ _ us hl => match us, hl with | [_, _], _ => rfl) (by decide) fun cdv A outer s H V E hr => (pms_cons (pms_expr (pm_call (ok_need_choir T) (hr.mono (by decide)) tk_fn (pma_cons (pm_var 0) pma_nil)))
  (pms_cons (pms_expr (pm_call (ok_need_name T) (hr.mono (by decide)) tk_fn (pma_cons (pm_var 0) (pma_cons (pm_var 1) pma_nil))))
  (pms_one (pms_ret (pm_callB (cr_sortS rfl hr.units) cd_sortS T.z_sorted (pma_cons (pm_call (ok_all_soonest T LM) (hr.mono (by decide)) tk_fn (pma_cons (pm_var 0) (pma_cons (pm_var 1) pma_nil))) pma_nil))))))
abbrev N_need_both : List Str := ["choir", "standing"]
theorem sc_need_both : FnScope N_need_both ["choir", "standing"] (defScope s_need_both) := ⟨rfl, rfl, rfl, by decide +kernel, rfl, by decide +kernel, by decide +kernel⟩
theorem ok_need_both {P : Program} {w : World} {K : PySem.W.Frag} {mg : Str → Option Value} {base : Heap} (T : Tx K mg) : FnD P w K mg base 7 "need_both" ["choir", "standing"] m_need_both := by
  obtain ⟨fd, D⟩ := T.f_need_both
  exact fn_mk D T.g_need_both sc_need_both (fun _ _ _ _ _ _ us hl => match us, hl with | [_, _], _ => rfl) (by decide) fun cdv A outer s H V E hr => (pms_cons (pms_expr (pm_call (ok_need_choir T) (hr.mono (by decide)) tk_fn (pma_cons (pm_var 0) pma_nil)))
  (pms_one (pms_expr (pm_call (ok_need_standing T) (hr.mono (by decide)) tk_fn (pma_cons (pm_var 0) (pma_cons (pm_var 1) pma_nil))))))
abbrev N_need_beats : List Str := ["beats"]
theorem sc_need_beats : FnScope N_need_beats ["beats"] (defScope s_need_beats) := ⟨rfl, rfl, rfl, by decide +kernel, rfl, by decide +kernel, by decide +kernel⟩
theorem ok_need_beats {P : Program} {w : World} {K : PySem.W.Frag} {mg : Str → Option Value} {base : Heap} (T : Tx K mg) : FnD P w K mg base 2 "need_beats" ["beats"] m_need_beats := by
  obtain ⟨fd, D⟩ := T.f_need_beats
  exact fn_mk D T.g_need_beats sc_need_beats (fun _ _ _ _ _ _ us hl => match us, hl with | [_], _ => rfl) (by decide) fun cdv A outer s H V E hr => (pms_one (pms_if (pmt_not (pmt_val (pm_call (ok_is_whole T) (hr.mono (by decide)) tk_fn (pma_cons (pm_var 0) (pma_cons pm_int (pma_cons (pm_gint T.c_LONGEST) pma_nil)))))) (pms_one (pms_raise T.x_BadNumber tk_fn)) pms_nil))
abbrev N_rows_of : List Str := ["choir", "standing", "beats", "found", "turn"]
theorem sc_rows_of : FnScope N_rows_of ["choir", "standing", "beats"] (defScope s_rows_of) := ⟨rfl, rfl, rfl, by decide +kernel, rfl, by decide +kernel, by decide +kernel⟩
theorem ok_rows_of {P : Program} {w : World} {K : PySem.W.Frag} {mg : Str → Option Value} {base : Heap} (T : Tx K mg) : FnD P w K mg base 7 "rows_of" ["choir", "standing", "beats"] m_rows_of := by
  obtain ⟨fd, D⟩ := T.f_rows_of
  exact fn_mk D T.g_rows_of sc_rows_of (fun _ _ _ _ _ _ us hl => match us, hl with | [_, _, _], _ => rfl) (by decide) fun cdv A outer s H V E hr => (pms_cons (pms_own 3 pma_nil sc_rows_of.nd)
  (pms_cons (pms_for (passes_of rfl) (pmi_range1 T.z_range (pma_cons (pm_var 2) pma_nil)) (pmg_name 4 sc_rows_of.nd)
  (pms_cons (pms_app 3 (pm_call (ok_all_next T) (hr.mono (by decide)) tk_fn (pma_cons (pm_var 0) (pma_cons (pm_var 1) pma_nil))))
  (pms_one (pms_set 1 (pm_call (ok_on T) (hr.mono (by decide)) tk_fn (pma_cons (pm_var 0) (pma_cons (pm_var 1) pma_nil))) sc_rows_of.nd))))
  (pms_one (pms_dem false (pms_ret (pm_var 3))))))
abbrev N_is_lead : List Str := ["choir", "spot", "line"]
theorem sc_is_lead : FnScope N_is_lead ["choir", "spot", "line"] (defScope s_is_lead) := ⟨rfl, rfl, rfl, by decide +kernel, rfl, by decide +kernel, by decide +kernel⟩
theorem ok_is_lead {P : Program} {w : World} {K : PySem.W.Frag} {mg : Str → Option Value} {base : Heap} (T : Tx K mg) : FnD P w K mg base 2 "is_lead" ["choir", "spot", "line"] m_is_lead := by
  obtain ⟨fd, D⟩ := T.f_is_lead
  exact fn_mk D T.g_is_lead sc_is_lead (fun _ _ _ _ _ _ us hl => match us, hl with | [_, _, _], _ => rfl) (by decide) fun cdv A outer s H V E hr => (pms_cons (pms_if (pmt_w (pmw_or (pmt_not (pmt_val (pm_isi .tuple T.z_isinstance T.z_tuple (pm_var 1)))) (pmw_or (pmt_cmp (op_neD hr.units) od_ne (pm_callB call_len cd_len T.z_len (pma_cons (pm_var 1) pma_nil)) pm_int) (pmw_or1 (pmt_not (pmt_val (pm_call (ok_is_whole T) (hr.mono (by decide)) tk_fn (pma_cons (pm_ix ix_seq od_ix (pm_var 1) pm_int) (pma_cons pm_int (pma_cons (pm_op op_sub od_sub (pm_gint T.c_LONGEST) pm_int) pma_nil)))))))))) (pms_one (pms_ret pm_bl)) pms_nil)
  (pms_one (pms_ret (pm_and (pm_isi .str T.z_isinstance T.z_str (pm_ix ix_seq od_ix (pm_var 1) pm_int)) (pm_and (pm_cmp (op_inAll (u65 hr)) od_in (pm_ix ix_seq od_ix (pm_var 1) pm_int) (pm_call (ok_all_names T) (hr.mono (by decide)) tk_fn (pma_cons (pm_var 0) pma_nil))) (pm_one (pm_call (ok_is_whole T) (hr.mono (by decide)) tk_fn (pma_cons (pm_var 2) (pma_cons pm_int (pma_cons (pm_op op_sub od_sub (pm_ix ix_seq od_ix (pm_var 0) pm_int) pm_int) pma_nil))))))))))
abbrev N_need_leads : List Str := ["choir", "leads", "spot"]
theorem sc_need_leads : FnScope N_need_leads ["choir", "leads"] (defScope s_need_leads) := ⟨rfl, rfl, rfl, by decide +kernel, rfl, by decide +kernel, by decide +kernel⟩
theorem ok_need_leads {P : Program} {w : World} {K : PySem.W.Frag} {mg : Str → Option Value} {base : Heap} (T : Tx K mg) : FnD P w K mg base 3 "need_leads" ["choir", "leads"] m_need_leads := by
  obtain ⟨fd, D⟩ := T.f_need_leads
  exact fn_mk D T.g_need_leads sc_need_leads (fun _ _ _ _ _ _ us hl => match us, hl with | [_, _], _ => rfl) (by decide) fun cdv A outer s H V E hr => (pms_one (pms_if (pmt_w (pmw_or (pmt_not (pmt_val (pm_isi .dict T.z_isinstance T.z_dict (pm_var 1)))) (pmw_or1 (pmt_not (pmt_val (pm_callB (cr_all rfl) cd_all T.z_all (pma_cons (pm_lc [("spot", 2)] (pmi_dict (pm_var 1)) (blkOk_by (N := N_need_leads) (sc := defScope s_need_leads) (by decide +kernel)) sc_need_leads.nd (fun _ _ _ _ _ => (pmg_name 2 sc_need_leads.nd)) (fun _ _ _ _ _ => pmts_nil) (fun _ _ _ _ _ => (pm_call (ok_is_lead T) (hr.mono (by decide)) tk_nox (pma_cons (pm_var 0) (pma_cons (pm_var 2) (pma_cons (pm_dix hr.units (pm_var 1) (pm_var 2)) pma_nil)))))) pma_nil))))))) (pms_one (pms_raise T.x_BadLead tk_fn)) pms_nil))
abbrev N_led_lines : List Str := ["choir", "standing", "leads", "beat", "pairs", "name", "line"]
theorem sc_led_lines : FnScope N_led_lines ["choir", "standing", "leads", "beat"] (defScope s_led_lines) := ⟨rfl, rfl, rfl, by decide +kernel, rfl, by decide +kernel, by decide +kernel⟩
theorem ok_led_lines {P : Program} {w : World} {K : PySem.W.Frag} {mg : Str → Option Value} {base : Heap} (T : Tx K mg) : FnD P w K mg base 6 "led_lines" ["choir", "standing", "leads", "beat"] m_led_lines := by
  obtain ⟨fd, D⟩ := T.f_led_lines
  exact fn_mk D T.g_led_lines sc_led_lines (fun _ _ _ _ _ _ us hl => match us, hl with | [_, _, _, _], _ => rfl) (by decide) fun cdv A outer s H V E hr => (pms_cons (pms_set 4 (pm_lzip T.z_list T.z_zip (pma_cons (pm_call (ok_all_names T) (hr.mono (by decide)) tk_fn (pma_cons (pm_var 0) pma_nil)) (pma_cons (pm_call (ok_all_next T) (hr.mono (by decide)) tk_fn (pma_cons (pm_var 0) (pma_cons (pm_var 1) pma_nil))) pma_nil))) sc_led_lines.nd)
  (pms_one (pms_ret (pm_callTy call_tuple_of cd_tuple T.z_tuple (pma_cons (pm_lc [("name", 5), ("line", 6)] (pmi_seq (pm_var 4)) (blkOk_by (N := N_led_lines) (sc := defScope s_led_lines) (by decide +kernel)) sc_led_lines.nd (fun _ _ _ _ _ => (pmg_tup (pmgs_cons (pmg_name 5 sc_led_lines.nd) (pmgs_cons (pmg_name 6 sc_led_lines.nd) pmgs_nil)) (gsC_len (gsC_len (fun _ _ _ h => gsN_len h))))) (fun _ _ _ _ _ => pmts_nil) (fun _ _ _ _ _ => (pm_dget2 hr.units (pm_var 2) (pm_tup (pma_cons (pm_var 3) (pma_cons (pm_var 5) pma_nil))) (pm_var 6)))) pma_nil)))))
abbrev N_led_rows : List Str := ["choir", "standing", "leads", "beats", "found", "standings", "beat"]
theorem sc_led_rows : FnScope N_led_rows ["choir", "standing", "leads", "beats"] (defScope s_led_rows) := ⟨rfl, rfl, rfl, by decide +kernel, rfl, by decide +kernel, by decide +kernel⟩
theorem ok_led_rows {P : Program} {w : World} {K : PySem.W.Frag} {mg : Str → Option Value} {base : Heap} (T : Tx K mg) : FnD P w K mg base 7 "led_rows" ["choir", "standing", "leads", "beats"] m_led_rows := by
  obtain ⟨fd, D⟩ := T.f_led_rows
  exact fn_mk D T.g_led_rows sc_led_rows (fun _ _ _ _ _ _ us hl => match us, hl with | [_, _, _, _], _ => rfl) (by decide) fun cdv A outer s H V E hr => (pms_cons (pms_par2 4 5 (pmx_ow (pmf_lst pma_nil) (pmx_ow (pmf_lst pma_nil) pmx_nil)) sc_led_rows.nd)
  (pms_cons (pms_for (passes_of rfl) (pmi_range1 T.z_range (pma_cons (pm_var 3) pma_nil)) (pmg_name 6 sc_led_rows.nd)
  (pms_cons (pms_app 5 (pm_var 1))
  (pms_cons (pms_app 4 (pm_call (ok_led_lines T) (hr.mono (by decide)) tk_fn (pma_cons (pm_var 0) (pma_cons (pm_var 1) (pma_cons (pm_var 2) (pma_cons (pm_var 6) pma_nil))))))
  (pms_one (pms_set 1 (pm_call (ok_behind T) (hr.mono (by decide)) tk_fn (pma_cons (pm_var 1) (pma_cons (pm_ixO 4 (pm_un un_neg od_neg pm_int)) pma_nil))) sc_led_rows.nd)))))
  (pms_one (pms_dem false (pms_ret (pm_tup (pma_cons (pm_var 4) (pma_cons (pm_var 5) pma_nil))))))))
abbrev N_changed : List Str := ["choir", "standing", "leads", "beats", "one", "other", "found", "beat", "at", "name"]
theorem sc_changed : FnScope N_changed ["choir", "standing", "leads", "beats"] (defScope s_changed) := ⟨rfl, rfl, rfl, by decide +kernel, rfl, by decide +kernel, by decide +kernel⟩
theorem ok_changed {P : Program} {w : World} {K : PySem.W.Frag} {mg : Str → Option Value} {base : Heap} (T : Tx K mg) : FnD P w K mg base 8 "changed" ["choir", "standing", "leads", "beats"] m_changed := by
  obtain ⟨fd, D⟩ := T.f_changed
  exact fn_mk D T.g_changed sc_changed (fun _ _ _ _ _ _ us hl => match us, hl with | [_, _, _, _], _ => rfl) (by decide) fun cdv A outer s H V E hr => (pms_cons (pms_expr (pm_call (ok_need_both T) (hr.mono (by decide)) tk_fn (pma_cons (pm_var 0) (pma_cons (pm_var 1) pma_nil))))
  (pms_cons (pms_expr (pm_call (ok_need_leads T) (hr.mono (by decide)) tk_fn (pma_cons (pm_var 0) (pma_cons (pm_var 2) pma_nil))))
  (pms_cons (pms_expr (pm_call (ok_need_beats T) (hr.mono (by decide)) tk_fn (pma_cons (pm_var 3) pma_nil)))
  (pms_cons (pms_par 4 5 (pma_cons (pm_call (ok_rows_of T) (hr.mono (by decide)) tk_fn (pma_cons (pm_var 0) (pma_cons (pm_var 1) (pma_cons (pm_var 3) pma_nil)))) (pma_cons (pm_ix ix_seq od_ix (pm_call (ok_led_rows T) (hr.mono (by decide)) tk_fn (pma_cons (pm_var 0) (pma_cons (pm_var 1) (pma_cons (pm_var 2) (pma_cons (pm_var 3) pma_nil))))) pm_int) pma_nil)) sc_changed.nd)
  (pms_cons (pms_set 6 (pm_lst pma_nil) sc_changed.nd)
  (pms_cons (pms_for (passes_of rfl) (pmi_range1 T.z_range (pma_cons (pm_var 3) pma_nil)) (pmg_name 7 sc_changed.nd)
  (pms_one (pms_for (passes_of rfl) (pmi_enum T.z_enumerate (pma_cons (pm_call (ok_all_names T) (hr.mono (by decide)) tk_fn (pma_cons (pm_var 0) pma_nil)) pma_nil)) (pmg_tup (pmgs_cons (pmg_name 8 sc_changed.nd) (pmgs_cons (pmg_name 9 sc_changed.nd) pmgs_nil)) (gsC_len (gsC_len (fun _ _ _ h => gsN_len h))))
  (pms_one (pms_set 6 (pm_op op_addD od_add (pm_var 6) (pm_op op_mulD od_mul (pm_lst (pma_cons (pm_tup (pma_cons (pm_var 7) (pma_cons (pm_var 9) pma_nil))) pma_nil)) (pm_callTy call_int1 cd_int T.z_int (pma_cons (pm_cmp (op_neD hr.units) od_ne (pm_ix ix_seq od_ix (pm_ix ix_seq od_ix (pm_var 4) (pm_var 7)) (pm_var 8)) (pm_ix ix_seq od_ix (pm_ix ix_seq od_ix (pm_var 5) (pm_var 7)) (pm_var 8))) pma_nil)))) sc_changed.nd)))))
  (pms_one (pms_ret (pm_var 6)))))))))
abbrev N_law_drawn : List Str := ["cell", "k", "more"]
theorem sc_law_drawn : FnScope N_law_drawn ["cell", "k"] (defScope s_law_drawn) := ⟨rfl, rfl, rfl, by decide +kernel, rfl, by decide +kernel, by decide +kernel⟩
theorem ok_law_drawn {P : Program} {w : World} {K : PySem.W.Frag} {mg : Str → Option Value} {base : Heap} (T : Tx K mg) : FnD P w K mg base 1 "_law_drawn" ["cell", "k"] m_law_drawn := by
  obtain ⟨fd, D⟩ := T.f_law_drawn
  exact fn_mk D T.g_law_drawn sc_law_drawn (fun _ _ _ _ _ _ us hl => match us, hl with | [_, _], _ => rfl) (by decide) fun cdv A outer s H V E hr => (pms_cons (pms_set 2 (pm_op op_mod od_mod (pm_op op_addD od_add (pm_op op_mulD od_mul (pm_var 0) pm_int) (pm_op op_mulD od_mul (pm_op op_addD od_add (pm_var 1) pm_int) pm_int)) pm_int) sc_law_drawn.nd)
  (pms_cons (pms_set 2 (pm_op op_mod od_mod (pm_op op_mulD od_mul (pm_var 2) (pm_var 2)) pm_int) sc_law_drawn.nd)
  (pms_cons (pms_set 2 (pm_op op_mulD od_mul (pm_op op_mulD od_mul (pm_op op_addD od_add (pm_op op_mod od_mod (pm_var 2) pm_int) pm_int) (pm_op op_addD od_add (pm_op op_fdivW od_div (pm_var 2) pm_int) pm_int)) (pm_var 2)) sc_law_drawn.nd)
  (pms_one (pms_ret (pm_op op_mod od_mod (pm_var 2) pm_int))))))
abbrev N_law_roll : List Str := ["dice", "many", "told"]
theorem sc_law_roll : FnScope N_law_roll ["dice", "many"] (defScope s_law_roll) := ⟨rfl, rfl, rfl, by decide +kernel, rfl, by decide +kernel, by decide +kernel⟩
theorem ok_law_roll {P : Program} {w : World} {K : PySem.W.Frag} {mg : Str → Option Value} {base : Heap} (T : Tx K mg) : FnL P w K mg base 2 "_law_roll" ["dice", "many"] m_law_roll := by
  obtain ⟨fd, D⟩ := T.f_law_roll
  exact fn_mkL D T.g_law_roll sc_law_roll (fun _ _ _ _ _ _ us hl => match us, hl with | [_, _], _ => rfl) (by decide) (by decide) fun cdv A outer s H V a E hr => (pms_cons (pms_if (pmt_cmp op_ge od_ge (pm_ixO 0 pm_int) (pm_op op_pow od_pow pm_int pm_int)) (pms_cons (pms_set 2 (pm_op op_mod od_mod (pm_ixO 0 pm_int) (pm_var 1)) sc_law_roll.nd)
  (pms_cons (pms_six 0 (pm_op op_fdivW od_div (pm_ixO 0 pm_int) (pm_var 1)) pm_int)
  (pms_one (pms_ret (pm_var 2))))) pms_nil)
  (pms_cons (pms_six 0 (pm_op op_addD od_add (pm_ixO 0 pm_int) pm_int) pm_int)
  (pms_one (pms_ret (pm_op op_mod od_mod (pm_op op_fdivW od_div (pm_call (ok_law_drawn T) (hr.mono (by decide)) tk_fn (pma_cons (pm_ixO 0 pm_int) (pma_cons (pm_ixO 0 pm_int) pma_nil))) pm_int) (pm_var 1))))))
abbrev N_law_any_singers : List Str := ["dice", "many", "crew", "found", "name", "ears", "turn", "size", "ear", "place"]
theorem sc_law_any_singers : FnScope N_law_any_singers ["dice", "many", "crew"] (defScope s_law_any_singers) := ⟨rfl, rfl, rfl, by decide +kernel, rfl, by decide +kernel, by decide +kernel⟩
theorem ok_law_any_singers {P : Program} {w : World} {K : PySem.W.Frag} {mg : Str → Option Value} {base : Heap} (T : Tx K mg) : FnL P w K mg base 3 "_law_any_singers" ["dice", "many", "crew"] m_law_any_singers := by
  obtain ⟨fd, D⟩ := T.f_law_any_singers
  exact fn_mkL D T.g_law_any_singers sc_law_any_singers (fun _ _ _ _ _ _ us hl => match us, hl with | [_, _, _], _ => rfl) (by decide) (by decide) fun cdv A outer s H V a E hr => (pms_cons (pms_own 3 pma_nil sc_law_any_singers.nd)
  (pms_cons (pms_for (passes_of rfl) (pmi_seq (pm_var 2)) (pmg_name 4 sc_law_any_singers.nd)
  (pms_cons (pms_own 5 pma_nil sc_law_any_singers.nd)
  (pms_cons (pms_for (passes_of rfl) (pmi_range1 T.z_range (pma_cons (pm_callL 0 (ok_law_roll T) (hr.mono (by decide)) tk_fn (pma_cons pm_int pma_nil)) pma_nil)) (pmg_name 6 sc_law_any_singers.nd)
  (pms_cons (pms_set 8 (pm_tup (pma_cons (pm_ix ix_seq od_ix (pm_var 2) (pm_callL 0 (ok_law_roll T) (hr.mono (by decide)) tk_fn (pma_cons (pm_callB call_len cd_len T.z_len (pma_cons (pm_var 2) pma_nil)) pma_nil))) (pma_cons (pm_op op_addD od_add pm_int (pm_callL 0 (ok_law_roll T) (hr.mono (by decide)) tk_fn (pma_cons pm_int pma_nil))) pma_nil))) sc_law_any_singers.nd)
  (pms_one (pms_if (pmt_brw true (pmt_cmp (op_notInAll (u65 hr)) od_notIn (pm_var 8) (pm_var 5))) (pms_one (pms_app 5 (pm_var 8))) pms_nil))))
  (pms_cons (pms_set 7 (pm_ix ix_seq od_ix (pm_lst (pma_cons pm_int (pma_cons (pm_var 1) (pma_cons (pm_op op_mulD od_mul (pm_var 1) (pm_var 1)) pma_nil)))) (pm_brw true (pm_callB call_len cd_len T.z_len (pma_cons (pm_var 5) pma_nil)))) sc_law_any_singers.nd)
  (pms_one (pms_app 3 (pm_tup (pma_cons (pm_var 4) (pma_cons (pm_brw true (pm_callTy call_tuple_of cd_tuple T.z_tuple (pma_cons (pm_callB cr_sortAll cd_sorted T.z_sorted (pma_cons (pm_var 5) pma_nil)) pma_nil))) (pma_cons (pm_callTy call_tuple_of cd_tuple T.z_tuple (pma_cons (pm_lc [("place", 9)] (pmi_range1 T.z_range (pma_cons (pm_var 7) pma_nil)) (blkOk_by (N := N_law_any_singers) (sc := defScope s_law_any_singers) (by decide +kernel)) sc_law_any_singers.nd (fun _ _ _ _ _ => (pmg_name 9 sc_law_any_singers.nd)) (fun _ _ _ _ _ => pmts_nil) (fun _ _ _ _ _ => (pm_callL 0 (ok_law_roll T) (hr.mono (by decide)) tk_nox (pma_cons (pm_var 1) pma_nil)))) pma_nil)) pma_nil))))))))))
  (pms_one (pms_ret (pm_brw true (pm_callTy call_tuple_of cd_tuple T.z_tuple (pma_cons (pm_var 3) pma_nil)))))))
abbrev N_law_any_choir : List Str := ["dice", "act", "many", "size"]
theorem sc_law_any_choir : FnScope N_law_any_choir ["dice"] (defScope s_law_any_choir) := ⟨rfl, rfl, rfl, by decide +kernel, rfl, by decide +kernel, by decide +kernel⟩
theorem ok_law_any_choir {P : Program} {w : World} {K : PySem.W.Frag} {mg : Str → Option Value} {base : Heap} (T : Tx K mg) : FnL P w K mg base 4 "_law_any_choir" ["dice"] m_law_any_choir := by
  obtain ⟨fd, D⟩ := T.f_law_any_choir
  exact fn_mkL D T.g_law_any_choir sc_law_any_choir (fun _ _ _ _ _ _ us hl => match us, hl with | [_], _ => rfl) (by decide) (by decide) fun cdv A outer s H V a E hr => (pms_cons (pms_set 1 (pm_callL 0 (ok_law_roll T) (hr.mono (by decide)) tk_fn (pma_cons pm_int pma_nil)) sc_law_any_choir.nd)
  (pms_cons (pms_asg (pm_ix ix_seq od_ix (pm_lst (pma_cons (pm_tup (pma_cons pm_int (pma_cons pm_int pma_nil))) (pma_cons (pm_tup (pma_cons pm_int (pma_cons pm_int pma_nil))) (pma_cons (pm_tup (pma_cons pm_int (pma_cons pm_int pma_nil))) (pma_cons (pm_tup (pma_cons pm_int (pma_cons pm_int pma_nil))) (pma_cons (pm_tup (pma_cons pm_int (pma_cons pm_int pma_nil))) (pma_cons (pm_tup (pma_cons pm_int (pma_cons pm_int pma_nil))) pma_nil))))))) (pm_var 1)) (pmg_tup (pmgs_cons (pmg_name 2 sc_law_any_choir.nd) (pmgs_cons (pmg_name 3 sc_law_any_choir.nd) pmgs_nil)) (gsC_len (gsC_len (fun _ _ _ h => gsN_len h)))))
  (pms_one (pms_ret (pm_tup (pma_cons (pm_var 2) (pma_cons (pm_callL 0 (ok_law_any_singers T) (hr.mono (by decide)) tk_fn (pma_cons (pm_var 2) (pma_cons (pm_slice (pm_lst (pma_cons pm_str (pma_cons pm_str (pma_cons pm_str pma_nil)))) pmo_none (pmo_some (pm_var 3))) pma_nil))) pma_nil)))))))
abbrev N_law_any_standing : List Str := ["dice", "choir", "found", "singer", "turn"]
theorem sc_law_any_standing : FnScope N_law_any_standing ["dice", "choir"] (defScope s_law_any_standing) := ⟨rfl, rfl, rfl, by decide +kernel, rfl, by decide +kernel, by decide +kernel⟩
theorem ok_law_any_standing {P : Program} {w : World} {K : PySem.W.Frag} {mg : Str → Option Value} {base : Heap} (T : Tx K mg) : FnL P w K mg base 3 "_law_any_standing" ["dice", "choir"] m_law_any_standing := by
  obtain ⟨fd, D⟩ := T.f_law_any_standing
  exact fn_mkL D T.g_law_any_standing sc_law_any_standing (fun _ _ _ _ _ _ us hl => match us, hl with | [_, _], _ => rfl) (by decide) (by decide) fun cdv A outer s H V a E hr => (pms_cons (pms_own 2 pma_nil sc_law_any_standing.nd)
  (pms_cons (pms_for (passes_of rfl) (pmi_seq (pm_ix ix_seq od_ix (pm_var 1) pm_int)) (pmg_name 3 sc_law_any_standing.nd)
  (pms_one (pms_app 2 (pm_callTy call_tuple_of cd_tuple T.z_tuple (pma_cons (pm_lc [("turn", 4)] (pmi_range1 T.z_range (pma_cons pm_int pma_nil)) (blkOk_by (N := N_law_any_standing) (sc := defScope s_law_any_standing) (by decide +kernel)) sc_law_any_standing.nd (fun _ _ _ _ _ => (pmg_name 4 sc_law_any_standing.nd)) (fun _ _ _ _ _ => pmts_nil) (fun _ _ _ _ _ => (pm_callL 0 (ok_law_roll T) (hr.mono (by decide)) tk_nox (pma_cons (pm_ix ix_seq od_ix (pm_var 1) pm_int) pma_nil)))) pma_nil)))))
  (pms_one (pms_ret (pm_brw true (pm_callTy call_tuple_of cd_tuple T.z_tuple (pma_cons (pm_var 2) pma_nil)))))))
abbrev N_law_crew : List Str := ["choir", "singer"]
theorem sc_law_crew : FnScope N_law_crew ["choir"] (defScope s_law_crew) := ⟨rfl, rfl, rfl, by decide +kernel, rfl, by decide +kernel, by decide +kernel⟩
theorem ok_law_crew {P : Program} {w : World} {K : PySem.W.Frag} {mg : Str → Option Value} {base : Heap} (T : Tx K mg) : FnD P w K mg base 1 "_law_crew" ["choir"] m_law_crew := by
  obtain ⟨fd, D⟩ := T.f_law_crew
  exact fn_mk D T.g_law_crew sc_law_crew (fun _ _ _ _ _ _ us hl => match us, hl with | [_], _ => rfl) (by decide) fun cdv A outer s H V E hr => (pms_one (pms_ret (pm_lc [("singer", 1)] (pmi_seq (pm_ix ix_seq od_ix (pm_var 0) pm_int)) (blkOk_by (N := N_law_crew) (sc := defScope s_law_crew) (by decide +kernel)) sc_law_crew.nd (fun _ _ _ _ _ => (pmg_name 1 sc_law_crew.nd)) (fun _ _ _ _ _ => pmts_nil) (fun _ _ _ _ _ => (pm_ix ix_seq od_ix (pm_var 1) pm_int)))))
abbrev N_law_cell : List Str := ["script", "k"]
theorem sc_law_cell : FnScope N_law_cell ["script", "k"] (defScope s_law_cell) := ⟨rfl, rfl, rfl, by decide +kernel, rfl, by decide +kernel, by decide +kernel⟩
theorem ok_law_cell {P : Program} {w : World} {K : PySem.W.Frag} {mg : Str → Option Value} {base : Heap} (T : Tx K mg) : ∃ fd, FnOk P w K mg base (L2N.CX P w) 1 (He.ga K "_law_cell") fd ["script", "k"] (DL.spCell ⟨K, w⟩) ∧ Binds K fd ["script", "k"] [] ∧ PySem.W.keepIn K (.ref (He.ga K "_law_cell")) = true := by
  obtain ⟨fd, D⟩ := T.f_law_cell
  refine ⟨fd, D.ok (CX := L2N.CX P w) sc_law_cell (fun vs H Q E h => ?_) (fun cdv A outer s H vs Q E hr h => ⟨DL.t_cell ⟨K, w⟩, ?_, DL.pure_cell vs H Q E h⟩), D.bindsN (fun _ _ _ _ _ _ us hl => match us, hl with | [_, _], _ => rfl), D.kp⟩
  · obtain ⟨a, ns, k, rfl, _⟩ := h
    rfl
  · exact pss_cons (ps_if (pt_cmpR (op_eqD hr.units) (pv 0) (pe_lst pa_nil) (nomark _)) (pss_one (ps_ret (pe_op op_mul (pv 1) pe_int))) pss_nil)
      (pss_one (ps_ret (pe_op op_add (pe_ix ix_list (pv 0) (pe_op op_mod (pv 1) (pe_callB call_len rfl T.z_len (by decide +kernel) (pa_cons (pv 0) pa_nil))) (fun _ _ => rfl)) (pe_op op_mul (pe_op op_fdivW (pv 1) (pe_callB call_len rfl T.z_len (by decide +kernel) (pa_cons (pv 0) pa_nil))) pe_int))))
abbrev N_law_rounds : List Str := ["script", "high", "k"]
theorem sc_law_rounds : FnScope N_law_rounds ["script", "high"] (defScope s_law_rounds) := ⟨rfl, rfl, rfl, by decide +kernel, rfl, by decide +kernel, by decide +kernel⟩
theorem ok_law_rounds {P : Program} {w : World} {K : PySem.W.Frag} {mg : Str → Option Value} {base : Heap} (T : Tx K mg) : ∃ fd, FnOk P w K mg base (L2N.CX P w) 2 (He.ga K "_law_rounds") fd ["script", "high"] (DL.spRounds ⟨K, w⟩) ∧ Binds K fd ["script", "high"] [] ∧ PySem.W.keepIn K (.ref (He.ga K "_law_rounds")) = true := by
  obtain ⟨fd, D⟩ := T.f_law_rounds
  refine ⟨fd, D.ok (CX := L2N.CX P w) sc_law_rounds (fun vs H Q E h => ?_) (fun cdv A outer s H vs Q E hr h => ⟨DL.t_rounds ⟨K, w⟩ E, ?_, DL.pure_rounds vs H Q E h⟩), D.bindsN (fun _ _ _ _ _ _ us hl => match us, hl with | [_, _], _ => rfl), D.kp⟩
  · obtain ⟨a, ns, k, rfl, _⟩ := h
    rfl
  · obtain ⟨fc, G1, G2, G3⟩ := ok_law_cell (P := P) (w := w) (base := base) T
    exact pss_one (ps_ret (pe_lc (own := [("k", 2)]) rfl sc_law_rounds.nd
      (pi_range1 rfl T.z_range (pa_cons (pe_callB (call_max2 rfl) rfl T.z_max (by decide +kernel) (pa_cons pe_int (pa_cons (pe_callB (call_min2 rfl) rfl T.z_min (by decide +kernel) (pa_cons (pv 1) (pa_cons (pe_callB call_len rfl T.z_len (by decide +kernel) (pa_cons (pv 0) pa_nil)) pa_nil))) pa_nil))) pa_nil))
      (blkOk_by (N := N_law_rounds) (sc := defScope s_law_rounds) (by decide +kernel)) (fun _ _ _ _ _ => pg_name (i := 2) sc_law_rounds.nd rfl (Or.inl rfl)) (fun _ _ _ _ _ => pts_nil)
      (fun _ _ _ _ _ => pe_lst (pa_cons (pe_callS (k := 1) (E := fun _ _ _ _ => False) G1 (hr.mono (by decide)) rfl T.g_law_cell G3 G2 (fun σ => L2N.passAt takesN0 σ) (pa_cons (pv 0) (pa_cons (pv 2) pa_nil))) (pa_cons pe_int pa_nil)))))
abbrev N_law : List Str := ["script", "dice", "choir", "crew", "slim", "one", "far", "turn", "other", "standing", "beat", "lead", "late", "name", "ears", "table", "who", "ago", "base", "some", "value"]
theorem sc_law : FnScope N_law ["script"] (defScope s_law) := ⟨rfl, rfl, rfl, by decide +kernel, rfl, by decide +kernel, by decide +kernel⟩
theorem ok_law {P : Program} {w : World} {K : PySem.W.Frag} {mg : Str → Option Value} (T : Tx K mg) (hb : ∀ c : Int, ∃ ρ', b_law (init law_n law_di c) = .nx ρ' ∧ ρ'.length = law_n) : ∃ fd, (∀ base : Heap, HD.LamKs K mg base lams → FnOk P w K mg base (L2N.CX P w) 9 (He.ga K "law") fd ["script"] (DL.spLaw ⟨K, w⟩)) ∧ ∀ (s : Shared) (v : Value), BindsTo s fd ⟨[v], []⟩ [("script", v)] := by
  obtain ⟨fd, D⟩ := T.f_law
  refine ⟨fd, fun base LM => D.ok (CX := L2N.CX P w) sc_law (fun vs H Q E h => ?_) (fun cdv A outer s H vs Q E hr h => ⟨DL.t_law ⟨K, w⟩ 4 1 b_law, ?_, DL.pure_law (N := N_law) (by decide) (by decide) (by decide) hb vs H Q E h (fun _ => rfl) (fun _ => rfl)⟩), fun s v => FunD.bindsA (ps := ["script"]) D (fun _ _ _ _ _ _ us hl => match us, hl with | [_], _ => rfl) s [v] rfl⟩
  · obtain ⟨_, a, ns, rfl, _⟩ := h
    rfl
  · obtain ⟨fr, G1, G2, G3⟩ := ok_law_rounds (P := P) (w := w) (base := base) T
    exact pss_cons (ps_for (passes_of rfl) rfl (pi_list (pe_callS (k := 2) (E := fun _ _ _ _ => False) G1 (hr.mono (by decide)) rfl T.g_law_rounds G3 G2 (fun σ => L2N.passAt takesN0 σ) (pa_cons (pv 0) (pa_cons pe_int pa_nil)))) (pg_name (i := 1) sc_law.nd rfl (by first | exact Or.inl rfl | exact Or.inr rfl))
      (pss_body fun H a => (pms_cons (pms_set 2 (pm_callL 1 (ok_law_any_choir T) (hr.mono (by decide)) tk_z pma_nil) sc_law.nd)
  (pms_cons (pms_par 3 4 (pma_cons (pm_call (ok_law_crew T) (hr.mono (by decide)) tk_z (pma_cons (pm_var 2) pma_nil)) (pma_cons (pm_call (ok_lean T) (hr.mono (by decide)) tk_z (pma_cons (pm_var 2) pma_nil)) pma_nil)) sc_law.nd)
  (pms_one (pms_for (passes_of rfl) (pmi_seq (pm_var 3)) (pmg_name 5 sc_law.nd)
  (pms_cons (pms_ownF 6 pmf_dnew sc_law.nd)
  (pms_cons (pms_for (passes_of rfl) (pmi_range1 T.z_range (pma_cons pm_int pma_nil)) (pmg_name 7 sc_law.nd)
  (pms_one (pms_for (passes_of rfl) (pmi_seq (pm_ix ix_seq od_ix (pm_var 4) pm_int)) (pmg_tup (pmgs_cons (pmg_name 13 sc_law.nd) (pmgs_cons (pmg_name 14 sc_law.nd) (pmgs_cons (pmg_name 15 sc_law.nd) pmgs_nil))) (gsC_len (gsC_len (gsC_len (fun _ _ _ h => gsN_len h)))))
  (pms_one (pms_for (passes_of rfl) (pmi_seq (pm_var 14)) (pmg_tup (pmgs_cons (pmg_name 16 sc_law.nd) (pmgs_cons (pmg_name 17 sc_law.nd) pmgs_nil)) (gsC_len (gsC_len (fun _ _ _ h => gsN_len h))))
  (pms_cons (pms_set 18 (pm_if (pmt_cmp (op_eqD hr.units) od_eq (pm_var 16) (pm_var 5)) pm_int pm_non) sc_law.nd)
  (pms_cons (pms_setLcB false 19 [("value", 20)] (pmi_seq (pm_lst (pma_cons (pm_var 18) (pma_cons (pm_dget1 hr.units (pm_var 6) (pm_var 16)) pma_nil)))) (blkOk_by (N := N_law) (sc := defScope s_law) (by decide +kernel)) sc_law.nd (fun _ _ _ _ _ => (pmg_name 20 sc_law.nd)) (fun _ _ _ _ _ => (pmts_one (pmt_cmp op_isNotD od_isNot (pm_var 20) pm_non))) (fun _ _ _ _ _ => (pm_var 20)))
  (pms_one (pms_if (pmt_brw false (pmt_w (pmw_and (pmt_cmp (op_neD hr.units) od_ne (pm_var 19) (pm_lst pma_nil)) (pmw_and1 (pmt_cmp (op_ltAll hr.units0) od_lt (pm_op op_addD od_add (pm_callB (cr_min rfl) cd_minL T.z_min (pma_cons (pm_var 19) pma_nil)) (pm_var 17)) (pm_dget2 hr.units (pm_var 6) (pm_var 13) pm_int)))))) (pms_one (pms_dset 6 hr.units (pm_op op_addD od_add (pm_callB (cr_min rfl) cd_minL T.z_min (pma_cons (pm_var 19) pma_nil)) (pm_var 17)) (pm_var 13))) pms_nil)))))))))
  (pms_cons (pms_if (pmt_brw false (pmt_cmp (op_neD hr.units) od_ne (pm_call (ok_reaches T LM) (hr.mono (by decide)) tk_z (pma_cons (pm_var 2) (pma_cons (pm_var 5) pma_nil))) (pm_callB (cr_sortS rfl hr.units) cd_sortS T.z_sorted (pma_cons (pm_var 6) pma_nil)))) (pms_one (pms_ret pm_bl)) pms_nil)
  (pms_cons (pms_for (passes_of rfl) (pmi_seq (pm_var 3)) (pmg_name 8 sc_law.nd)
  (pms_one (pms_if (pmt_brw false (pmt_cmp (op_neD hr.units) od_ne (pm_call (ok_soonest T LM) (hr.mono (by decide)) tk_z (pma_cons (pm_var 2) (pma_cons (pm_var 5) (pma_cons (pm_var 8) pma_nil)))) (pm_dget1 hr.units (pm_var 6) (pm_var 8)))) (pms_one (pms_ret pm_bl)) pms_nil)))
  (pms_cons (pms_par 9 10 (pma_cons (pm_callL 1 (ok_law_any_standing T) (hr.mono (by decide)) tk_z (pma_cons (pm_var 2) pma_nil)) (pma_cons (pm_callL 1 (ok_law_roll T) (hr.mono (by decide)) tk_z (pma_cons pm_int pma_nil)) pma_nil)) sc_law.nd)
  (pms_cons (pms_set 11 (pm_d1 hr.units (pm_tup (pma_cons (pm_var 10) (pma_cons (pm_var 5) pma_nil))) (pm_callL 1 (ok_law_roll T) (hr.mono (by decide)) tk_z (pma_cons (pm_ix ix_seq od_ix (pm_var 2) pm_int) pma_nil))) sc_law.nd)
  (pms_one (pms_for (passes_of rfl) (pmi_seq (pm_call (ok_changed T) (hr.mono (by decide)) tk_z (pma_cons (pm_var 2) (pma_cons (pm_var 9) (pma_cons (pm_var 11) (pma_cons pm_int pma_nil)))))) (pmg_tup (pmgs_cons (pmg_name 12 sc_law.nd) (pmgs_cons (pmg_name 13 sc_law.nd) pmgs_nil)) (gsC_len (gsC_len (fun _ _ _ h => gsN_len h))))
  (pms_one (pms_if (pmt_brw false (pmt_w (pmw_and (pmt_cmp (op_neD hr.units) od_ne (pm_tup (pma_cons (pm_var 12) (pma_cons (pm_var 13) pma_nil))) (pm_tup (pma_cons (pm_var 10) (pma_cons (pm_var 5) pma_nil)))) (pmw_and1 (pmt_w (pmw_or (pmt_cmp (op_notInX hr.units) od_notInX (pm_var 13) (pm_var 6)) (pmw_or1 (pmt_cmp (op_ltAll hr.units0) od_lt (pm_var 12) (pm_op op_addD od_add (pm_var 10) (pm_dix hr.units (pm_var 6) (pm_var 13))))))))))) (pms_one (pms_ret pm_bl)) pms_nil)))))))))))))))) (pss_one (ps_ret pe_bl))
end G
set_option Elab.async false
set_option linter.all false
set_option maxRecDepth 100000
set_option maxHeartbeats 1000000
namespace G
open PySem DL
local instance : DL.TabCtx := ⟨[]⟩
inductive P : Nat → PyData → Prop
  | none {k} : P k .none
  | int {k} (i : Int) : P k (.int i)
  | str {k} {s : Str} (h : (PyData.str s).canLay0 = true) : P k (.str s)
  | tuple {k} {xs : List PyData} (h : ∀ x ∈ xs, P k x) : P (k + 1) (.tuple xs)
  | list {k} {xs : List PyData} (h : ∀ x ∈ xs, P k x) : P (k + 1) (.list xs)
theorem P.mono {j : Nat} {d : PyData} (h : P j d) : ∀ {k : Nat}, j ≤ k → P k d := by
  induction h with
  | none => exact fun _ => .none
  | int i => exact fun _ => .int i
  | str h => exact fun _ => .str h
  | tuple _ ih => intro k hk; cases k with
    | zero => omega
    | succ k => exact .tuple fun x hx => ih x hx (by omega)
  | list _ ih => intro k hk; cases k with
    | zero => omega
    | succ k => exact .list fun x hx => ih x hx (by omega)
theorem lay_all : ∀ {xs : List PyData}, (∀ x ∈ xs, x.canLay0 = true) → PyData.canLayAll0 xs = true
  | [], _ => rfl
  | x :: xs, h => by
    show (PyData.canLay0 x && PyData.canLayAll0 xs) = true
    rw [h x (List.mem_cons_self ..), lay_all fun y hy => h y (List.mem_cons_of_mem _ hy)]
    rfl
theorem depth_all {k : Nat} : ∀ {xs : List PyData}, (∀ x ∈ xs, x.depth ≤ k) → PyData.depthAll xs ≤ k
  | [], _ => by simp [PyData.depthAll]
  | x :: xs, h => by
    have h1 := h x (List.mem_cons_self ..)
    have h2 := depth_all fun y hy => h y (List.mem_cons_of_mem _ hy)
    simp only [PyData.depthAll]
    omega
theorem P.lay {k : Nat} {d : PyData} (h : P k d) : d.canLay0 = true ∧ d.depth ≤ k := by
  induction h with
  | none => exact ⟨by rw [PyData.canLay0], by rw [PyData.depth]; omega⟩
  | int i => exact ⟨by rw [PyData.canLay0], by rw [PyData.depth]; omega⟩
  | str h => exact ⟨h, by rw [PyData.depth]; omega⟩
  | tuple _ ih => exact ⟨by rw [PyData.canLay0]; exact lay_all fun x hx => (ih x hx).1, by rw [PyData.depth]; have := depth_all fun x hx => (ih x hx).2; omega⟩
  | list _ ih => exact ⟨by rw [PyData.canLay0]; exact lay_all fun x hx => (ih x hx).1, by rw [PyData.depth]; have := depth_all fun x hx => (ih x hx).2; omega⟩
theorem P.shaped {k : Nat} {d : PyData} (h : P k d) (hk : k ≤ 64) : SeqAt.shaped d = true := by
  obtain ⟨h1, h2⟩ := h.lay
  unfold SeqAt.shaped
  rw [h1, decide_eq_true (Nat.le_trans h2 hk)]
  rfl
theorem eqv_all : ∀ {xs ys : List PyData}, (∀ x ∈ xs, ∀ y ∈ ys, x.eqv y = true ↔ x = y) → (PyData.eqvAll xs ys = true ↔ xs = ys)
  | [], [], _ => by simp [PyData.eqvAll]
  | [], _ :: _, _ => by simp [PyData.eqvAll]
  | _ :: _, [], _ => by simp [PyData.eqvAll]
  | x :: xs, y :: ys, h => by
    have h1 := h x (List.mem_cons_self ..) y (List.mem_cons_self ..)
    have h2 := eqv_all (xs := xs) (ys := ys) fun a ha b hb => h a (List.mem_cons_of_mem _ ha) b (List.mem_cons_of_mem _ hb)
    simp only [PyData.eqvAll, Bool.and_eq_true, h1, h2, List.cons.injEq]
theorem P.eqv {j : Nat} {a : PyData} (ha : P j a) : ∀ {k : Nat} {b : PyData}, P k b → (a.eqv b = true ↔ a = b) := by
  induction ha with
  | none => intro k b hb; cases hb <;> simp [PyData.eqv]
  | int i => intro k b hb; cases hb <;> simp [PyData.eqv]
  | str h => intro k b hb; cases hb <;> simp [PyData.eqv]
  | tuple _ ih =>
    intro k b hb
    cases hb with
    | tuple h2 => simp only [PyData.eqv, PyData.tuple.injEq]; exact eqv_all fun x hx y hy => ih x hx (h2 y hy)
    | _ => simp [PyData.eqv]
  | list _ ih =>
    intro k b hb
    cases hb with
    | list h2 => simp only [PyData.eqv, PyData.list.injEq]; exact eqv_all fun x hx y hy => ih x hx (h2 y hy)
    | _ => simp [PyData.eqv]
theorem gEq_P {j k : Nat} {a b : PyData} (ha : P j a) (hb : P k b) (p : Prop) [Decidable p] (hp : a = b ↔ p) (hj : j ≤ 64 := by decide) (hk : k ≤ 64 := by decide) : gEq a b = some (.bool (decide p)) := by
  unfold gEq
  rw [ha.shaped hj, hb.shaped hk]
  have : a.eqv b = decide p := by
    rw [Bool.eq_iff_iff, ha.eqv hb, hp, decide_eq_true_iff]
  rw [this]
  rfl
theorem gNe_P {j k : Nat} {a b : PyData} (ha : P j a) (hb : P k b) (p : Prop) [Decidable p] (hp : a = b ↔ p) (hj : j ≤ 64 := by decide) (hk : k ≤ 64 := by decide) : gNe a b = some (.bool (!decide p)) := by
  unfold gNe
  rw [ha.shaped hj, hb.shaped hk]
  have : a.eqv b = decide p := by
    rw [Bool.eq_iff_iff, ha.eqv hb, hp, decide_eq_true_iff]
  rw [this]
  rfl
@[simp] theorem gEq_int (i j : Int) : gEq (.int i) (.int j) = some (.bool (decide (i = j))) := gEq_P (j := 0) (k := 0) (.int i) (.int j) _ (by simp)
@[simp] theorem gNe_int (i j : Int) : gNe (.int i) (.int j) = some (.bool (!decide (i = j))) := gNe_P (j := 0) (k := 0) (.int i) (.int j) _ (by simp)
section
variable {ρ : Rho} {d x y z : PyData} {ds : List PyData} {i j : Nat} {α β : Type} {a b c : M PyData} {s t : M Bool} {as : M (List PyData)} {f g : SM}
@[simp] theorem e_bind {f : M α} {k : α → M β} : M.bind f k ρ = match f ρ with
  | .ok (a, ρ') => k a ρ'
  | .exc c => .exc c
  | .bad => .bad := rfl
@[simp] theorem e_pure {v : α} : M.pure v ρ = .ok (v, ρ) := rfl
@[simp] theorem e_lift {r : R α} : M.lift r ρ = match r with
  | .ok a => .ok (a, ρ)
  | .exc c => .exc c
  | .bad => .bad := rfl
@[simp] theorem e_some {v : α} : M.opt (some v) ρ = .ok (v, ρ) := rfl
@[simp] theorem e_vN : vN i ρ = match ρ[i]? with
  | some (.sh d) => .ok (d, ρ)
  | _ => .bad := rfl
@[simp] theorem e_cD : cD d ρ = .ok (d, ρ) := rfl
@[simp] theorem e_op1 {g : PyData → Option PyData} : op1 g a ρ = (M.bind a fun x => M.opt (g x)) ρ := rfl
@[simp] theorem e_op2 {g : PyData → PyData → Option PyData} : op2 g a b ρ = (M.bind a fun x => M.bind b fun y => M.opt (g x y)) ρ := rfl
@[simp] theorem e_aN : aN ρ = .ok ([], ρ) := rfl
@[simp] theorem e_aC : aC a as ρ = (M.bind a fun x => M.bind as fun xs => M.pure (x :: xs)) ρ := rfl
@[simp] theorem e_opA {g : List PyData → Option PyData} : opA g as ρ = (M.bind as fun ds => M.opt (g ds)) ρ := rfl
@[simp] theorem e_callM {m : List PyData → R PyData} : callM m as ρ = (M.bind as fun ds => M.lift (m ds)) ρ := rfl
@[simp] theorem e_tst : tst a ρ = (M.bind a fun x => M.opt (asB x)) ρ := rfl
@[simp] theorem e_asB {b : Bool} : asB (.bool b) = some b := rfl
@[simp] theorem e_asI {i : Int} : asI (.int i) = some i := rfl
@[simp] theorem e_asL : asL (.list ds) = some ds := rfl
@[simp] theorem e_andT : andT s t ρ = (M.bind s fun x => if x = true then t else M.pure false) ρ := rfl
@[simp] theorem e_orT : orT s t ρ = (M.bind s fun x => if x = true then M.pure true else t) ρ := rfl
@[simp] theorem e_notT : notT s ρ = (M.bind s fun x => M.pure (!x)) ρ := rfl
@[simp] theorem e_andV : andV a b ρ = (M.bind a fun x => M.bind (M.opt (asB x)) fun c => if c = true then b else M.pure (.bool false)) ρ := rfl
@[simp] theorem e_orV : orV a b ρ = (M.bind a fun x => M.bind (M.opt (asB x)) fun c => if c = true then M.pure (.bool true) else b) ρ := rfl
@[simp] theorem e_notV : notV a ρ = (M.bind a fun x => M.opt ((asB x).map fun b => .bool (!b))) ρ := rfl
@[simp] theorem e_ifV : ifV s a b ρ = (M.bind s fun c => if c = true then a else b) ρ := rfl
@[simp] theorem e_chain {g g' : PyData → PyData → Option PyData} : chain g g' a b c ρ = (M.bind a fun x => M.bind b fun y => M.bind (M.opt ((g x y).bind asB)) fun k => if k = true then M.bind c fun z => M.opt (g' y z) else M.pure (.bool false)) ρ := rfl
@[simp] theorem e_prt : prt a ρ = (M.bind a fun x => M.bind (M.opt (asI x)) fun i => M.pure (some i)) ρ := rfl
@[simp] theorem e_noPrt : noPrt ρ = .ok (none, ρ) := rfl
@[simp] theorem e_slc {l h : M (Option Int)} : slc a l h ρ = (M.bind a fun x => M.bind l fun l => M.bind h fun h => M.opt (gCut l h x)) ρ := rfl
@[simp] theorem e_seqI : seqI a ρ = (M.bind a fun d => M.opt (itemsD d)) ρ := rfl
@[simp] theorem e_opI {g : List PyData → Option (List PyData)} : opI g as ρ = (M.bind as fun ds => M.opt (g ds)) ρ := rfl
@[simp] theorem e_isi {T : Ty} : isi T a ρ = (M.bind a fun d => M.opt (some (.bool (isD T d)))) ρ := rfl
@[simp] theorem e_opM {g : PyData → List PyData → Option PyData} : opM g a as ρ = (M.bind a fun x => M.bind (M.opt (asL x)) fun _ => M.bind as fun xs => M.opt (g x xs)) ρ := rfl
@[simp] theorem e_yes : yesT ρ = .ok (true, ρ) := rfl
@[simp] theorem e_seqO : seqO f g ρ = match f ρ with
  | .nx ρ' => g ρ'
  | o => o := rfl
@[simp] theorem e_exO {f : M α} {k : α → SM} : exO f k ρ = match f ρ with
  | .ok (a, ρ') => k a ρ'
  | .exc c => .exc c
  | .bad => .bad := rfl
@[simp] theorem e_nxO : nxO ρ = .nx ρ := rfl
@[simp] theorem e_dropO : dropO a ρ = (exO a fun _ => nxO) ρ := rfl
@[simp] theorem e_retO : retO a ρ = (exO a fun d ρ => .rt d ρ) ρ := rfl
@[simp] theorem e_ifO : ifO s f g ρ = (exO s fun b => if b = true then f else g) ρ := rfl
@[simp] theorem e_raiseO {c : Str} : raiseO c ρ = .exc c := rfl
@[simp] theorem e_asgO {g : GM} : asgO a g ρ = (exO a fun d ρ => match g d ρ with
  | .ok ρ' => .nx ρ'
  | .exc c => .bad
  | .bad => .bad) ρ := rfl
@[simp] theorem e_setS : setS i d ρ = if i < ρ.length then .ok (ρ.set i (.sh d)) else .bad := rfl
@[simp] theorem e_unT {gs : List PyData → Rho → R Rho} : unT gs (.tuple ds) ρ = gs ds ρ := rfl
@[simp] theorem e_gsN : gsN [] ρ = .ok ρ := rfl
@[simp] theorem e_gsC {g : GM} {gs : List PyData → Rho → R Rho} : gsC g gs (d :: ds) ρ = R.bind (g d ρ) fun ρ' => gs ds ρ' := rfl
@[simp] theorem e_Rbind {r : R α} {k : α → R β} : R.bind r k = match r with
  | .ok a => k a
  | .exc c => .exc c
  | .bad => .bad := rfl
@[simp] theorem e_par2 : par2 i j as ρ = (exO as fun ds ρ => match ds with
  | [x, y] => if i < ρ.length ∧ j < ρ.length then .nx ((ρ.set i (.sh x)).set j (.sh y)) else .bad
  | _ => .bad) ρ := rfl
@[simp] theorem e_forO {g : GM} : forO as g f ρ = (exO as fun ds => loopO g f ds) ρ := rfl
@[simp] theorem e_items_t : itemsD (.tuple ds) = some ds := rfl
@[simp] theorem e_items_l : itemsD (.list ds) = some ds := rfl
@[simp] theorem e_ix_t {k : Int} : gIx (.tuple ds) (.int k) = atD ds k := rfl
@[simp] theorem e_ix_l {k : Int} : gIx (.list ds) (.int k) = atD ds k := rfl
@[simp] theorem e_at {k : Nat} : atD ds ((k : Nat) : Int) = ds[k]? := by
  unfold atD; rw [if_pos (by omega)]; rfl
@[simp] theorem e_at0 : atD ds 0 = ds[0]? := e_at (k := 0)
@[simp] theorem e_at1 : atD ds 1 = ds[1]? := e_at (k := 1)
@[simp] theorem e_at2 : atD ds 2 = ds[2]? := e_at (k := 2)
@[simp] theorem e_len_t : gLen [.tuple ds] = some (.int ds.length) := rfl
@[simp] theorem e_len_l : gLen [.list ds] = some (.int ds.length) := rfl
@[simp] theorem e_tuple_l : gTuple [.list ds] = some (.tuple ds) := rfl
@[simp] theorem e_tuple_t : gTuple [.tuple ds] = some (.tuple ds) := rfl
@[simp] theorem e_le {k l : Int} : gLe (.int k) (.int l) = some (.bool (decide (k ≤ l))) := rfl
@[simp] theorem e_gt {k l : Int} : gGt (.int k) (.int l) = some (.bool (decide (l < k))) := rfl
@[simp] theorem e_ge {k l : Int} : gGe (.int k) (.int l) = some (.bool (decide (l ≤ k))) := rfl
@[simp] theorem e_add {k l : Int} : gAdd (.int k) (.int l) = some (.int (k + l)) := rfl
@[simp] theorem e_sub {k l : Int} : gSub (.int k) (.int l) = some (.int (k - l)) := rfl
@[simp] theorem e_isNot {k l : Bool} : gIsNot (.bool k) (.bool l) = some (.bool (!decide (k = l))) := rfl
theorem e_mul {k l : Int} (h : -(2 ^ 64) < l ∧ l < 2 ^ 64) : gMul (.int k) (.int l) = some (.int (k * l)) := if_pos (.inl (.inr h))
theorem e_mod {k l : Int} (h : 0 < l) : gMod (.int k) (.int l) = some (.int (k % l)) := if_pos h
theorem e_div {k l : Int} (h : 0 < l ∧ l < 2 ^ 200) : gDiv (.int k) (.int l) = some (.int (k / l)) := if_pos h
@[simp] theorem e_LIM : LIM = 1000000 := rfl
@[simp] theorem e_tupD : gTupD ds = if ds.length ≤ LIM then some (.tuple ds) else none := rfl
@[simp] theorem e_lstD : gLstD ds = if ds.length ≤ LIM then some (.list ds) else none := rfl
theorem e_rg1 {n : Nat} (h : n ≤ 1000000) : rg1 [.int (n : Nat)] = some (rangeD 0 n) := by
  have h1 : -(2 ^ 62) ≤ ((n : Nat) : Int) ∧ ((n : Nat) : Int) < 2 ^ 62 := by omega
  simp only [rg1]
  rw [if_pos h1, Int.toNat_natCast]
@[simp] theorem e_wipe0 {ρ : Rho} : wipeR ρ [] = ρ := rfl
@[simp] theorem e_wipe {ρ : Rho} {v : Nat} {vs : List Nat} : wipeR ρ (v :: vs) = (wipeR ρ vs).set v .no := rfl
end
theorem rangeD_map (n : Nat) : rangeD 0 n = (List.range n).map fun i => PyData.int (i : Nat) := by
  unfold rangeD; congr; funext i; rw [Int.zero_add]
theorem resR_wipe {ρ ρ' : Rho} : ∀ {vs : List Nat}, wipeR ρ' vs = wipeR ρ vs → resR ρ ρ' vs = ρ := by
  intro vs h
  have hl : ρ'.length = ρ.length := by rw [← wipeR_len ρ' vs, h, wipeR_len]
  have len : ∀ ws, (resR ρ ρ' ws).length = ρ.length := by
    intro ws
    induction ws with
    | nil => exact hl
    | cons w ws ih => unfold resR; rw [List.length_set, ih]
  have get : ∀ ws i, i ∈ ws → i < ρ.length → (resR ρ ρ' ws)[i]? = ρ[i]? := by
    intro ws
    induction ws with
    | nil => intro i hi; cases hi
    | cons w ws ih =>
      intro i hi hlt
      unfold resR
      by_cases e : w = i
      · subst e
        rw [List.getElem?_set_self (by rw [len]; exact hlt), List.getD_eq_getElem?_getD, List.getElem?_eq_getElem hlt]
        rfl
      · rw [List.getElem?_set_ne e]
        rcases List.mem_cons.mp hi with z | z
        · exact absurd z.symm e
        · exact ih i z hlt
  have out : ∀ ws i, i ∉ ws → (resR ρ ρ' ws)[i]? = ρ'[i]? := by
    intro ws
    induction ws with
    | nil => intro i _; rfl
    | cons w ws ih =>
      intro i hi
      unfold resR
      rw [List.getElem?_set_ne (fun e => hi (by rw [e]; exact List.mem_cons_self ..))]
      exact ih i fun z => hi (List.mem_cons_of_mem _ z)
  apply List.ext_getElem?
  intro i
  by_cases hi : i ∈ vs
  · by_cases hlt : i < ρ.length
    · exact get vs i hi hlt
    · rw [List.getElem?_eq_none (by rw [len]; omega), List.getElem?_eq_none (by omega)]
  · rw [out vs i hi]
    have := congrArg (fun l => l[i]?) h
    simp only [wipeR_out hi] at this
    exact this
theorem lcLoop_map {α : Type} {vs : List Nat} {g : GM} {t : M Bool} {e : M PyData} {ρ : Rho} {enc out : α → PyData} {p : α → Bool} : ∀ {xs : List α}, (∀ x ∈ xs, ∃ ρ1, g (enc x) (wipeR ρ vs) = .ok ρ1 ∧ t ρ1 = .ok (p x, ρ1) ∧ (p x = true → e ρ1 = .ok (out x, ρ1)) ∧ wipeR ρ1 vs = wipeR ρ vs) →
    ∀ {ρc : Rho} {acc : List PyData}, wipeR ρc vs = wipeR ρ vs → xs.length + acc.length ≤ LIM → ∃ ρ', lcLoop vs g t e (xs.map enc) ρc acc = .ok (acc ++ (xs.filter p).map out, ρ') ∧ wipeR ρ' vs = wipeR ρ vs
  | [], _, ρc, acc, h, _ => ⟨ρc, by simp [lcLoop], h⟩
  | x :: xs, hs, ρc, acc, h, hl => by
    obtain ⟨ρ1, h1, h2, h3, h4⟩ := hs x (List.mem_cons_self ..)
    have hr : ∀ y ∈ xs, _ := fun y hy => hs y (List.mem_cons_of_mem _ hy)
    simp only [List.length_cons] at hl
    cases hp : p x with
    | false =>
      obtain ⟨ρ', k1, k2⟩ := lcLoop_map hr (ρc := ρ1) (acc := acc) h4 (by omega)
      refine ⟨ρ', ?_, k2⟩
      rw [List.map_cons, List.filter_cons, hp]
      unfold lcLoop
      rw [h, h1]
      simp only [h2, hp]
      exact k1
    | true =>
      obtain ⟨ρ', k1, k2⟩ := lcLoop_map hr (ρc := ρ1) (acc := acc ++ [out x]) h4 (by rw [List.length_append]; simp only [List.length_cons, List.length_nil]; omega)
      refine ⟨ρ', ?_, k2⟩
      rw [List.map_cons, List.filter_cons, hp]
      unfold lcLoop
      rw [h, h1]
      simp only [h2, hp, h3 hp]
      rw [if_pos (by omega), k1]
      simp
theorem lc_filt {α : Type} {vs : List Nat} {a : M (List PyData)} {g : GM} {t : M Bool} {e : M PyData} {ρ : Rho} (xs : List α) (enc out : α → PyData) (p : α → Bool) (ha : a ρ = .ok (xs.map enc, ρ)) (ho : (vs.any fun i => isOw ρ[i]?) = false) (hl : xs.length ≤ LIM)
    (hs : ∀ x ∈ xs, ∃ ρ1, g (enc x) (wipeR ρ vs) = .ok ρ1 ∧ t ρ1 = .ok (p x, ρ1) ∧ (p x = true → e ρ1 = .ok (out x, ρ1)) ∧ wipeR ρ1 vs = wipeR ρ vs) : lcM vs a g t e ρ = .ok (.list ((xs.filter p).map out), ρ) := by
  obtain ⟨ρ', k1, k2⟩ := lcLoop_map hs (acc := []) rfl (by simpa using hl)
  unfold lcM M.bind
  simp only [ha, ho, k1]
  rw [if_neg Bool.false_ne_true, resR_wipe k2]
  rfl
theorem lc_map {α : Type} {vs : List Nat} {a : M (List PyData)} {g : GM} {e : M PyData} {ρ : Rho} (xs : List α) (enc out : α → PyData) (ha : a ρ = .ok (xs.map enc, ρ)) (ho : (vs.any fun i => isOw ρ[i]?) = false) (hl : xs.length ≤ LIM)
    (hs : ∀ x ∈ xs, ∃ ρ1, g (enc x) (wipeR ρ vs) = .ok ρ1 ∧ e ρ1 = .ok (out x, ρ1) ∧ wipeR ρ1 vs = wipeR ρ vs) : lcM vs a g yesT e ρ = .ok (.list (xs.map out), ρ) := by
  have := lc_filt (vs := vs) (t := yesT) (e := e) xs enc out (fun _ => true) ha ho hl fun x hx => by
    obtain ⟨ρ1, h1, h2, h3⟩ := hs x hx
    exact ⟨ρ1, h1, rfl, fun _ => h2, h3⟩
  rw [this, List.filter_eq_self.mpr fun _ _ => rfl]
theorem loop_inv {g : GM} {fb : SM} (I : Nat → Rho → Prop) {ds : List PyData} (h : ∀ (i : Nat) (d : PyData) (ρ : Rho), ds[i]? = some d → I i ρ → ∃ ρ1 ρ2, g d ρ = .ok ρ1 ∧ fb ρ1 = .nx ρ2 ∧ I (i + 1) ρ2) {ρ : Rho} (h0 : I 0 ρ) : ∃ ρ', loopO g fb ds ρ = .nx ρ' ∧ I ds.length ρ' := by
  induction ds generalizing I ρ with
  | nil => exact ⟨ρ, rfl, h0⟩
  | cons d ds ih =>
    obtain ⟨ρ1, ρ2, h1, h2, h3⟩ := h 0 d ρ rfl h0
    obtain ⟨ρ', k1, k2⟩ := ih (fun i => I (i + 1)) (fun i d ρ hd hi => h (i + 1) d ρ hd hi) h3
    refine ⟨ρ', ?_, k2⟩
    unfold loopO
    rw [h1]
    simp only [h2]
    exact k1
theorem bools_map {α : Type} (p : α → Bool) : ∀ xs : List α, boolsD (xs.map fun x => .bool (p x)) = some (xs.map p)
  | [] => rfl
  | x :: xs => by rw [List.map_cons, boolsD, bools_map p xs]; rfl
theorem all_map {α : Type} (p : α → Bool) (xs : List α) : gAll [.list (xs.map fun x => .bool (p x))] = some (.bool (xs.all p)) := by
  show (boolsD _).map _ = _
  rw [bools_map]
  show some (PyData.bool ((xs.map p).all id)) = _
  rw [List.all_map]; rfl
theorem any_map {α : Type} (p : α → Bool) (xs : List α) : gAny [.list (xs.map fun x => .bool (p x))] = some (.bool (xs.any p)) := by
  show (boolsD _).map _ = _
  rw [bools_map]
  show some (PyData.bool ((xs.map p).any id)) = _
  rw [List.any_map]; rfl
theorem ints_map : ∀ xs : List Int, intsD (xs.map PyData.int) = some xs
  | [] => rfl
  | x :: xs => by rw [List.map_cons, intsD, ints_map xs]; rfl
theorem is_whole_int (a lo hi : Int) : m_is_whole [.int a, .int lo, .int hi] = .ok (.bool (decide (lo ≤ a) && decide (a ≤ hi))) := by
  by_cases h : lo ≤ a <;> simp [m_is_whole, b_is_whole, fnRun, start0, isD, h]
theorem are_lines_ints (ns : List Int) (k many : Int) (hl : ns.length ≤ LIM) : m_are_lines [.tuple (ns.map .int), .int k, .int many] = .ok (.bool (decide ((ns.length : Int) = k) && ns.all fun n => decide (0 ≤ n) && decide (n ≤ many - 1))) := by
  by_cases h : (ns.length : Int) = k
  · simp [m_are_lines, b_are_lines, fnRun, start0, isD, h]
    rw [lc_map ns .int (fun n => .bool (decide (0 ≤ n) && decide (n ≤ many - 1)))]
    · simp [all_map]
    · simp
    · rfl
    · exact hl
    · intro n hn
      exact ⟨_, rfl, by simp [is_whole_int], rfl⟩
  · simp [m_are_lines, b_are_lines, fnRun, start0, isD, h]
end G
set_option Elab.async false
set_option linter.all false
set_option maxRecDepth 100000
set_option maxHeartbeats 1000000
namespace G
open PySem DL
local instance : DL.TabCtx := ⟨[]⟩
theorem cut_from (ds : List PyData) (k : Nat) : cutD ds (some (k : Int)) none = ds.drop k := by
  unfold cutD
  rw [HT.sIx_nat, HT.sIx_none]
  by_cases h : k ≤ ds.length
  · rw [Nat.min_eq_left h, List.take_of_length_le (by simp)]
  · rw [Nat.min_eq_right (by omega), Nat.sub_self, List.take_zero, List.drop_eq_nil_of_le (by omega)]
theorem cut_to (ds : List PyData) (k : Nat) : cutD ds none (some (k : Int)) = ds.take k := by
  unfold cutD
  rw [HT.sIx_nat, HT.sIx_none, Nat.sub_zero, List.drop_zero]
  by_cases h : k ≤ ds.length
  · rw [Nat.min_eq_left h]
  · rw [Nat.min_eq_right (by omega), List.take_of_length_le (by omega), List.take_of_length_le (by omega)]
@[simp] theorem cut_from1 (ds : List PyData) : cutD ds (some 1) none = ds.drop 1 := cut_from ds 1
@[simp] theorem cut_to1 (ds : List PyData) : cutD ds none (some 1) = ds.take 1 := cut_to ds 1
@[simp] theorem e_cut_t {lo hi : Option Int} {ds : List PyData} : gCut lo hi (.tuple ds) = some (.tuple (cutD ds lo hi)) := rfl
@[simp] theorem e_cut_l {lo hi : Option Int} {ds : List PyData} : gCut lo hi (.list ds) = some (.list (cutD ds lo hi)) := rfl
theorem any_eqv {j k : Nat} {x : PyData} (hx : P j x) {ds : List PyData} (hd : ∀ y ∈ ds, P k y) (p : Prop) [Decidable p] (hp : x ∈ ds ↔ p) : (ds.any fun z => PyData.eqv z x) = decide p := by
  rw [Bool.eq_iff_iff, List.any_eq_true, decide_eq_true_iff, ← hp]
  constructor
  · rintro ⟨y, hy, he⟩
    rw [((hd y hy).eqv hx).mp he] at hy
    exact hy
  · exact fun h => ⟨x, h, (hx.eqv hx).mpr rfl⟩
theorem gIn_P {j k : Nat} {x : PyData} (hx : P j x) {ds : List PyData} (hd : ∀ y ∈ ds, P k y) (p : Prop) [Decidable p] (hp : x ∈ ds ↔ p) (hj : j ≤ 64 := by decide) (hk : k + 1 ≤ 64 := by decide) : gIn x (.list ds) = some (.bool (decide p)) := by
  have : gIn x (.list ds) = if (SeqAt.shaped x && SeqAt.shaped (.list ds)) = true then some (.bool (ds.any fun z => PyData.eqv z x)) else none := by cases x <;> rfl
  rw [this, hx.shaped hj, (P.list hd).shaped hk, any_eqv hx hd p hp]
  rfl
theorem gNotIn_P {j k : Nat} {x : PyData} (hx : P j x) {ds : List PyData} (hd : ∀ y ∈ ds, P k y) (p : Prop) [Decidable p] (hp : x ∈ ds ↔ p) (hj : j ≤ 64 := by decide) (hk : k + 1 ≤ 64 := by decide) : gNotIn x (.list ds) = some (.bool (!decide p)) := by
  have : gNotIn x (.list ds) = if (SeqAt.shaped x && SeqAt.shaped (.list ds)) = true then some (.bool (!ds.any fun z => PyData.eqv z x)) else none := by cases x <;> rfl
  rw [this, hx.shaped hj, (P.list hd).shaped hk, any_eqv hx hd p hp]
  rfl
theorem lcLoop2_map {α β : Type} {vs vs1 : List Nat} {g g1 : GM} {fi1 : M (List PyData)} {e : M PyData} {ρ : Rho} {enc : α → PyData} {ys : α → List β} {enc1 : β → PyData} {out : α → β → PyData} (hsub : ∀ i ∈ vs1, i ∈ vs) : ∀ {xs : List α}, (∀ x ∈ xs, ∃ ρ1, g (enc x) (wipeR ρ vs) = .ok ρ1 ∧ wipeR ρ1 vs = wipeR ρ vs ∧ fi1 ρ1 = .ok ((ys x).map enc1, ρ1) ∧
      ∀ y ∈ ys x, ∃ ρ2, g1 (enc1 y) (wipeR ρ1 vs1) = .ok ρ2 ∧ e ρ2 = .ok (out x y, ρ2) ∧ wipeR ρ2 vs1 = wipeR ρ1 vs1) →
    ∀ {ρc : Rho} {acc : List PyData}, wipeR ρc vs = wipeR ρ vs → (xs.flatMap ys).length + acc.length ≤ LIM → ∃ ρ', lcLoop2 vs vs1 g yesT fi1 g1 yesT e (xs.map enc) ρc acc = .ok (acc ++ xs.flatMap (fun x => (ys x).map (out x)), ρ') ∧ wipeR ρ' vs = wipeR ρ vs
  | [], _, ρc, acc, h, _ => ⟨ρc, by simp [lcLoop2], h⟩
  | x :: xs, hs, ρc, acc, h, hl => by
    obtain ⟨ρ1, h1, h2, h3, h4⟩ := hs x (List.mem_cons_self ..)
    have hr : ∀ y ∈ xs, _ := fun y hy => hs y (List.mem_cons_of_mem _ hy)
    simp only [List.flatMap_cons, List.length_append] at hl
    obtain ⟨ρ3, k1, k2⟩ := lcLoop_map (vs := vs1) (g := g1) (t := yesT) (e := e) (ρ := ρ1) (enc := enc1) (out := out x) (p := fun _ => true) (xs := ys x) (fun y hy => by
      obtain ⟨ρ2, a1, a2, a3⟩ := h4 y hy
      exact ⟨ρ2, a1, rfl, fun _ => a2, a3⟩) (ρc := ρ1) (acc := acc) rfl (by omega)
    have k3 : wipeR ρ3 vs = wipeR ρ vs := by rw [← wipeR_sub ρ3 hsub, k2, wipeR_sub ρ1 hsub, h2]
    rw [List.filter_eq_self.mpr fun _ _ => rfl] at k1
    obtain ⟨ρ', l1, l2⟩ := lcLoop2_map hsub hr (ρc := ρ3) (acc := acc ++ (ys x).map (out x)) k3 (by rw [List.length_append, List.length_map]; omega)
    refine ⟨ρ', ?_, l2⟩
    rw [List.map_cons]
    unfold lcLoop2
    rw [h, h1]
    simp only [e_yes, h3, k1]
    rw [l1]
    simp
theorem lc2_map {α β : Type} {vs vs1 : List Nat} {a : M (List PyData)} {g g1 : GM} {fi1 : M (List PyData)} {e : M PyData} {ρ : Rho} (xs : List α) (enc : α → PyData) (ys : α → List β) (enc1 : β → PyData) (out : α → β → PyData) (ha : a ρ = .ok (xs.map enc, ρ)) (ho : (vs.any fun i => isOw ρ[i]?) = false) (hl : (xs.flatMap ys).length ≤ LIM) (hsub : ∀ i ∈ vs1, i ∈ vs)
    (hs : ∀ x ∈ xs, ∃ ρ1, g (enc x) (wipeR ρ vs) = .ok ρ1 ∧ wipeR ρ1 vs = wipeR ρ vs ∧ fi1 ρ1 = .ok ((ys x).map enc1, ρ1) ∧
      ∀ y ∈ ys x, ∃ ρ2, g1 (enc1 y) (wipeR ρ1 vs1) = .ok ρ2 ∧ e ρ2 = .ok (out x y, ρ2) ∧ wipeR ρ2 vs1 = wipeR ρ1 vs1) : lcM2 vs vs1 a g yesT fi1 g1 yesT e ρ = .ok (.list (xs.flatMap fun x => (ys x).map (out x)), ρ) := by
  obtain ⟨ρ', k1, k2⟩ := lcLoop2_map hsub hs (acc := []) rfl (by simpa using hl)
  unfold lcM2 M.bind
  simp only [ha, ho, k1]
  rw [if_neg Bool.false_ne_true, resR_wipe k2]
  rfl
structure Sg where
  name : Str
  ears : List (Str × Int)
  tab : List Int
deriving DecidableEq
def Sg.d (s : Sg) : PyData := .tuple [.str s.name, .tuple (s.ears.map siD), .tuple (s.tab.map .int)]
def chD (many : Int) (ss : List Sg) : PyData := .tuple [.int many, .tuple (ss.map Sg.d)]
def Wd (s : Str) : Prop := m_is_word [.str s] = .ok (.bool true) ∧ (PyData.str s).canLay0 = true
theorem wd_ann : Wd "ann" := ⟨rfl, by decide +kernel⟩
theorem wd_bob : Wd "bob" := ⟨rfl, by decide +kernel⟩
theorem wd_cy : Wd "cy" := ⟨rfl, by decide +kernel⟩
def rising {α : Type} (lt : α → α → Bool) (xs : List α) : Bool := (xs.zip xs.tail).all fun p => lt p.1 p.2
structure GSg (many : Int) (names : List Str) (s : Sg) : Prop where
  word : Wd s.name
  elen : s.ears.length ≤ 2
  ear : ∀ e ∈ s.ears, Wd e.1 ∧ e.1 ∈ names ∧ 1 ≤ e.2 ∧ e.2 ≤ 3
  rise : rising SrtQ.lexS s.ears = true
  tlen : (s.tab.length : Int) = many ^ s.ears.length
  tab : ∀ t ∈ s.tab, 0 ≤ t ∧ t < many
structure Good (many : Int) (ss : List Sg) : Prop where
  m2 : 2 ≤ many
  m4 : many ≤ 4
  l1 : 1 ≤ ss.length
  l4 : ss.length ≤ 4
  sg : ∀ s ∈ ss, GSg many (ss.map (·.name)) s
  rise : rising SrtQ.ltS (ss.map (·.name)) = true
theorem siD_inj {a b : Str × Int} : siD a = siD b ↔ a = b := by
  unfold siD; constructor
  · intro h; injection h with h; injection h with h1 h2; injection h1 with h1; injection h2 with h2 _; injection h2 with h2; exact Prod.ext h1 h2
  · rintro rfl; rfl
theorem map_inj {α β : Type} {f : α → β} (h : ∀ a b, f a = f b ↔ a = b) : ∀ {xs ys : List α}, xs.map f = ys.map f ↔ xs = ys
  | [], [] => by simp
  | [], _ :: _ => by simp
  | _ :: _, [] => by simp
  | x :: xs, y :: ys => by simp [h, map_inj h (xs := xs) (ys := ys)]
theorem P_ints {k : Nat} (ns : List Int) : ∀ x ∈ ns.map PyData.int, P k x := fun x hx => by
  obtain ⟨n, _, rfl⟩ := List.mem_map.mp hx; exact .int n
theorem P_ear {k : Nat} {e : Str × Int} (h : Wd e.1) : P (k + 1) (siD e) := .tuple fun x hx => by
  simp at hx; rcases hx with rfl | rfl
  · exact .str h.2
  · exact .int _
theorem P_sg {k : Nat} {s : Sg} (h : Wd s.name) (he : ∀ e ∈ s.ears, Wd e.1) : P (k + 3) s.d := .tuple fun x hx => by
  simp at hx; rcases hx with rfl | rfl | rfl
  · exact .str h.2
  · exact .tuple fun x hx => by obtain ⟨e, h1, rfl⟩ := List.mem_map.mp hx; exact P_ear (he e h1)
  · exact .tuple (P_ints _)
theorem P_ch {k : Nat} {m : Int} {ss : List Sg} (h : ∀ s ∈ ss, Wd s.name ∧ ∀ e ∈ s.ears, Wd e.1) : P (k + 5) (chD m ss) := .tuple fun x hx => by
  simp at hx; rcases hx with rfl | rfl
  · exact .int _
  · exact .tuple fun x hx => by obtain ⟨s, h1, rfl⟩ := List.mem_map.mp hx; exact P_sg (h s h1).1 (h s h1).2
theorem GSg.p {k : Nat} {many : Int} {names : List Str} {s : Sg} (h : GSg many names s) : P (k + 3) s.d := P_sg h.word fun e he => (h.ear e he).1
theorem Good.p {k : Nat} {many : Int} {ss : List Sg} (h : Good many ss) : P (k + 5) (chD many ss) := P_ch fun s hs => ⟨(h.sg s hs).word, fun e he => ((h.sg s hs).ear e he).1⟩
theorem zipD_map {α : Type} (enc : α → PyData) (xs ys : List α) : zipD (xs.map enc) (ys.map enc) = (xs.zip ys).map fun p => .tuple [enc p.1, enc p.2] := by
  unfold zipD
  rw [List.zip_map, List.map_map]; rfl
theorem rise_l {α : Type} (enc : α → PyData) (lt : α → α → Bool) (h : ∀ a b, gLt (enc a) (enc b) = some (.bool (lt a b))) (xs : List α) (hl : xs.length ≤ LIM) : m_rise [.list (xs.map enc)] = .ok (.bool (rising lt xs)) := by
  simp [m_rise, b_rise, fnRun, start0]
  rw [lc_map (xs.zip xs.tail) (fun p => .tuple [enc p.1, enc p.2]) (fun p => .bool (lt p.1 p.2))]
  · simp [all_map, rising]
  · simp [gZip]; rw [← List.map_tail, zipD_map]
  · rfl
  · rw [List.length_zip]; exact Nat.le_trans (Nat.min_le_left _ _) hl
  · intro p _
    exact ⟨_, rfl, by simp [h], rfl⟩
theorem rise_t {α : Type} (enc : α → PyData) (lt : α → α → Bool) (h : ∀ a b, gLt (enc a) (enc b) = some (.bool (lt a b))) (xs : List α) (hl : xs.length ≤ LIM) : m_rise [.tuple (xs.map enc)] = .ok (.bool (rising lt xs)) := by
  simp [m_rise, b_rise, fnRun, start0]
  rw [lc_map (xs.zip xs.tail) (fun p => .tuple [enc p.1, enc p.2]) (fun p => .bool (lt p.1 p.2))]
  · simp [all_map, rising]
  · simp [gZip]; rw [← List.map_tail, zipD_map]
  · rfl
  · rw [List.length_zip]; exact Nat.le_trans (Nat.min_le_left _ _) hl
  · intro p _
    exact ⟨_, rfl, by simp [h], rfl⟩
theorem lt_str (a b : Str) : gLt (.str a) (.str b) = some (.bool (SrtQ.ltS a b)) := rfl
theorem lt_ear (a b : Str × Int) : gLt (siD a) (siD b) = some (.bool (SrtQ.lexS a b)) := by
  unfold siD SrtQ.lexS
  simp only [gLt, lexD, flatLt, Option.bind_some, Option.map_some, PyData.eqv, beq_iff_eq]
  congr 2
  by_cases h : a.1 = b.1
  · simp [h]
    intro h2; omega
  · simp [h]
theorem is_ear_ok {e : Str × Int} (h : Wd e.1) (h1 : 1 ≤ e.2) (h3 : e.2 ≤ 3) : m_is_ear [siD e] = .ok (.bool true) := by
  simp [m_is_ear, b_is_ear, fnRun, start0, isD, siD, h.1, is_whole_int, h1, h3]
theorem are_ears_ok {es : List (Str × Int)} (hl : es.length ≤ 2) (he : ∀ e ∈ es, Wd e.1 ∧ 1 ≤ e.2 ∧ e.2 ≤ 3) (hr : rising SrtQ.lexS es = true) : m_are_ears [.tuple (es.map siD)] = .ok (.bool true) := by
  have h2 : (es.length : Int) ≤ 2 := by omega
  simp [m_are_ears, b_are_ears, fnRun, start0, isD, h2]
  rw [lc_map es siD (fun _ => .bool true)]
  · simp [all_map, rise_t siD SrtQ.lexS lt_ear es (by rw [e_LIM]; omega), hr]
  · simp
  · rfl
  · rw [e_LIM]; omega
  · intro e h
    obtain ⟨a, b, c⟩ := he e h
    exact ⟨_, rfl, by simp [is_ear_ok a b c], rfl⟩
theorem places_ok {many : Int} {ds : List PyData} (h2 : 2 ≤ many) (h4 : many ≤ 4) (hl : ds.length ≤ 2) : m_places_for [.int many, .tuple ds] = .ok (.int (many ^ ds.length)) := by
  have hm : gMul (.int many) (.int many) = some (.int (many * many)) := e_mul (by omega)
  match hd : ds.length, hl with
  | 0, _ => simp [m_places_for, b_places_for, fnRun, start0, hm, hd]
  | 1, _ => simp [m_places_for, b_places_for, fnRun, start0, hm, hd, Int.pow_succ]
  | 2, _ => simp [m_places_for, b_places_for, fnRun, start0, hm, hd, Int.pow_succ]
theorem pow_le {many : Int} (h2 : 2 ≤ many) (h4 : many ≤ 4) {n : Nat} (hn : n ≤ 2) : 1 ≤ many ^ n ∧ many ^ n ≤ 16 := by
  have : many = 2 ∨ many = 3 ∨ many = 4 := by omega
  have h : n = 0 ∨ n = 1 ∨ n = 2 := by omega
  rcases this with rfl | rfl | rfl <;> rcases h with rfl | rfl | rfl <;> decide
theorem is_singer_ok {many : Int} {names : List Str} {s : Sg} (h2 : 2 ≤ many) (h4 : many ≤ 4) (h : GSg many names s) : m_is_singer [s.d, .int many] = .ok (.bool true) := by
  have h1 := are_ears_ok h.elen (fun e he => ⟨(h.ear e he).1, (h.ear e he).2.2⟩) h.rise
  have h3 := places_ok (ds := s.ears.map siD) h2 h4 (by rw [List.length_map]; exact h.elen)
  have hw := h.word.1
  have hl : s.tab.length ≤ LIM := by
    have := h.tlen; have := (pow_le h2 h4 h.elen).2; rw [e_LIM]; omega
  have h5 := are_lines_ints s.tab (many ^ s.ears.length) many hl
  have h6 : (s.tab.all fun n => decide (0 ≤ n) && decide (n ≤ many - 1)) = true := by
    rw [List.all_eq_true]; intro t ht
    have := h.tab t ht
    rw [decide_eq_true this.1, decide_eq_true (by omega)]; rfl
  rw [h6, h.tlen, decide_eq_true rfl] at h5
  rw [List.length_map] at h3
  simp [m_is_singer, b_is_singer, fnRun, start0, isD, Sg.d, hw, h1, h3, h5]
theorem is_choir_ok {many : Int} {ss : List Sg} (h : Good many ss) : m_is_choir [chD many ss] = .ok (.bool true) := by
  have h2 := h.m2
  have h4 := h.m4
  have h1 := h.l1
  have hl4 := h.l4
  have hl : ss.length ≤ LIM := by rw [e_LIM]; omega
  have a1 : (1 : Int) ≤ ss.length := by omega
  have a2 : (ss.length : Int) ≤ 4 := by omega
  have hr := rise_l PyData.str SrtQ.ltS lt_str (ss.map (·.name)) (by rw [List.length_map]; exact hl)
  rw [List.map_map, h.rise] at hr
  have hr : m_rise [.list (ss.map fun s => .str s.name)] = .ok (.bool true) := hr
  simp [m_is_choir, b_is_choir, fnRun, start0, isD, chD, is_whole_int, h2, h4, a1, a2]
  rw [lc_map ss Sg.d (fun _ => .bool true)]
  rotate_left
  · simp
  · rfl
  · exact hl
  · exact fun s hs => ⟨_, rfl, by simp [is_singer_ok h2 h4 (h.sg s hs)], rfl⟩
  simp [all_map]
  rw [lc_map ss Sg.d (fun s => .str s.name)]
  rotate_left
  · simp
  · rfl
  · exact hl
  · exact fun s hs => ⟨_, rfl, by simp [Sg.d], rfl⟩
  simp [hr]
  rw [lc_map ss Sg.d (fun s => .str s.name)]
  rotate_left
  · simp
  · rfl
  · exact hl
  · exact fun s hs => ⟨_, rfl, by simp [Sg.d], rfl⟩
  simp
  rw [lc2_map ss Sg.d (fun s => s.ears) siD (fun _ _ => .bool true)]
  · have : (ss.flatMap fun x => x.ears.map fun _ => PyData.bool true) = (ss.flatMap fun x => x.ears).map fun _ => PyData.bool true := by rw [List.map_flatMap]
    rw [this]
    simp [all_map]
  · simp
  · rfl
  · have : ∀ xs : List Sg, (∀ s ∈ xs, s.ears.length ≤ 2) → (xs.flatMap fun s => s.ears).length ≤ 2 * xs.length := by
      intro xs
      induction xs with
      | nil => intro _; simp
      | cons x xs ih =>
        intro hh
        have b1 := hh x (List.mem_cons_self ..)
        have b2 := ih fun y hy => hh y (List.mem_cons_of_mem _ hy)
        simp only [List.flatMap_cons, List.length_append, List.length_cons]
        omega
    have := this ss fun s hs => (h.sg s hs).elen
    rw [e_LIM]; omega
  · decide
  · intro s hs
    refine ⟨_, rfl, rfl, by simp [Sg.d], fun e he => ⟨_, rfl, ?_, rfl⟩⟩
    obtain ⟨b1, b2, _⟩ := (h.sg s hs).ear e he
    have := gIn_P (j := 0) (k := 0) (x := .str e.1) (ds := ss.map fun s => .str s.name) (.str b1.2) (fun y hy => by obtain ⟨s, h1, rfl⟩ := List.mem_map.mp hy; exact .str (h.sg s h1).word.2) True (by
      simp only [iff_true]
      obtain ⟨s, h1, h2⟩ := List.mem_map.mp b2
      exact List.mem_map.mpr ⟨s, h1, by rw [h2]⟩)
    simp [siD, this]
theorem need_choir_ok {many : Int} {ss : List Sg} (h : Good many ss) : m_need_choir [chD many ss] = .ok .none := by
  simp [m_need_choir, b_need_choir, fnRun, start0, is_choir_ok h]
theorem all_names_ok {many : Int} {ss : List Sg} (hl : ss.length ≤ LIM) : m_all_names [chD many ss] = .ok (.list (ss.map fun s => .str s.name)) := by
  simp [m_all_names, b_all_names, fnRun, start0, chD]
  rw [lc_map ss Sg.d (fun s => .str s.name)]
  · simp
  · rfl
  · exact hl
  · exact fun s hs => ⟨_, rfl, by simp [Sg.d], rfl⟩
end G
set_option Elab.async false
set_option linter.all false
set_option maxRecDepth 100000
set_option maxHeartbeats 1000000
namespace G
open PySem DL
local instance : DL.TabCtx := ⟨[]⟩
section
variable {ρ : Rho} {d x y z : PyData} {ds : List PyData} {i j : Nat} {a b c : M PyData} {t : M Bool} {as : M (List PyData)} {f g : SM}
@[simp] theorem e_ownO : ownO i as ρ = (exO as fun ds ρ => if ds.length ≤ LIM then .nx (ρ.set i (.ow (.list ds))) else .bad) ρ := rfl
@[simp] theorem e_appO : appO i a ρ = match ρ[i]? with
  | some (.ow (.list _)) => exO a (fun d ρ => match ρ[i]? with
    | some (.ow (.list ds)) => if ds.length < LIM then .nx (ρ.set i (.ow (.list (ds ++ [d])))) else .bad
    | _ => .bad) ρ
  | _ => .bad := rfl
@[simp] theorem e_isOw {d : PyData} : isOw (some (.ow d)) = true := rfl
@[simp] theorem e_ixO : ixO i a ρ = if isOw ρ[i]? = true then ixI i a ρ else .bad := rfl
def ixK (i : Nat) (k : PyData) : M PyData := fun ρ => match ρ[i]?, k with
  | some (.ow (.list ds)), .int j => (match atD ds j with
    | some z => .ok (z, ρ)
    | none => .bad)
  | _, _ => .bad
@[simp] theorem e_ixI : ixI i a ρ = (M.bind a (ixK i)) ρ := rfl
@[simp] theorem e_ixK {k : Int} (h : ρ[i]? = some (.ow (.list ds))) : ixK i (.int k) ρ = match atD ds k with
    | some z => .ok (z, ρ)
    | none => .bad := by unfold ixK; rw [h]
@[simp] theorem e_sixO : sixO i b a ρ = (exO a fun d ρ => if isOw ρ[i]? = true then exO b (fun j ρ => match ρ[i]?, j with
  | some (.ow (.list ds)), .int j => (match L2.ixN ds.length j with
    | some n => .nx (ρ.set i (.ow (.list (ds.set n d))))
    | none => .bad)
  | _, _ => .bad) ρ else .bad) ρ := rfl
@[simp] theorem e_callL {m : PyData → List PyData → R (PyData × PyData)} : callL i m as ρ = if isOw ρ[i]? = true then callI i m as ρ else .bad := rfl
def callK (i : Nat) (m : PyData → List PyData → R (PyData × PyData)) (ds : List PyData) : M PyData := fun ρ => match ρ[i]? with
  | some (.ow dd) => (match m dd ds with
    | .ok (d, dd') => .ok (d, ρ.set i (.ow dd'))
    | .exc c => .exc c
    | .bad => .bad)
  | _ => .bad
@[simp] theorem e_callI {m : PyData → List PyData → R (PyData × PyData)} : callI i m as ρ = (M.bind as (callK i m)) ρ := rfl
@[simp] theorem e_callK {m : PyData → List PyData → R (PyData × PyData)} : callK i m ds ρ = match ρ[i]? with
  | some (.ow dd) => (match m dd ds with
    | .ok (d, dd') => .ok (d, ρ.set i (.ow dd'))
    | .exc c => .exc c
    | .bad => .bad)
  | _ => .bad := rfl
@[simp] theorem e_demR1 {s : Sl} : demR true (s :: ρ) = s :: ρ.map demSl := rfl
@[simp] theorem e_demR0 : demR false ρ = ρ.map demSl := rfl
@[simp] theorem e_demOw : demSl (.ow d) = .sh d := rfl
@[simp] theorem e_demSh : demSl (.sh d) = .sh d := rfl
@[simp] theorem e_demNo : demSl .no = .no := rfl
@[simp] theorem e_back1 {s s' : Sl} {ρ' : Rho} : backR true (s :: ρ) (s' :: ρ') = if immSl s' = true then some (s' :: ρ) else none := rfl
@[simp] theorem e_back0 {ρ' : Rho} : backR false ρ ρ' = some ρ := rfl
@[simp] theorem e_brw {b : Bool} : brw b a ρ = match a (demR b ρ) with
  | .ok (d, ρ') => if imm d = true then (match backR b ρ ρ' with
    | some ρ'' => .ok (d, ρ'')
    | none => .bad) else .bad
  | .exc c => .exc c
  | .bad => .bad := rfl
@[simp] theorem e_brwT {b : Bool} : brwT b t ρ = match t (demR b ρ) with
  | .ok (d, ρ') => (match backR b ρ ρ' with
    | some ρ'' => .ok (d, ρ'')
    | none => .bad)
  | .exc c => .exc c
  | .bad => .bad := rfl
@[simp] theorem e_demO {b : Bool} : demO b f ρ = f (demR b ρ) := rfl
end
def dcD (s : Int × Int) : PyData := .list [.int s.1, .int s.2]
@[simp] theorem imm_dc (s : Int × Int) : immSl (.ow (dcD s)) = true := rfl
theorem drawn_ok (c k : Int) : ∃ v : Int, m_law_drawn [.int c, .int k] = .ok (.int v) := by
  have p1 : ∀ x : Int, gMul (.int x) (.int 6364136223846793005) = some (.int (x * 6364136223846793005)) := fun x => e_mul (by decide)
  have p2 : ∀ x : Int, gMul (.int x) (.int 1442695040888963407) = some (.int (x * 1442695040888963407)) := fun x => e_mul (by decide)
  have p3 : ∀ x : Int, gMod (.int x) (.int 340282366920938463463374607431768211507) = some (.int (x % 340282366920938463463374607431768211507)) := fun x => e_mod (by decide)
  have p4 : ∀ x : Int, gMod (.int x) (.int 340282366920938463463374607431768211297) = some (.int (x % 340282366920938463463374607431768211297)) := fun x => e_mod (by decide)
  have p5 : ∀ x : Int, gMod (.int x) (.int 18446744073709551557) = some (.int (x % 18446744073709551557)) := fun x => e_mod (by decide)
  have p6 : ∀ x : Int, gDiv (.int x) (.int 18446744073709551557) = some (.int (x / 18446744073709551557)) := fun x => e_div (by decide)
  have lt : ∀ {x : Int} {n : Nat}, 0 ≤ x → x < 2 ^ n → n ≤ 2000 → x.natAbs < 2 ^ 2000 := fun {x n} h0 h1 h2 => by
    have : x.natAbs < 2 ^ n := by
      have e : ((x.natAbs : Nat) : Int) = x := Int.natAbs_of_nonneg h0
      have : ((x.natAbs : Nat) : Int) < ((2 ^ n : Nat) : Int) := by rw [e]; push_cast; exact h1
      exact Int.ofNat_lt.mp this
    exact Nat.lt_of_lt_of_le this (Nat.pow_le_pow_right (by decide) h2)
  have mul : ∀ {x y : Int}, x.natAbs < 2 ^ 2000 → y.natAbs < 2 ^ 2000 → gMul (.int x) (.int y) = some (.int (x * y)) := fun h1 h2 => if_pos (.inr ⟨h1, h2⟩)
  generalize ha : (c * 6364136223846793005 + (k + 1) * 1442695040888963407) % 340282366920938463463374607431768211507 = a
  have a0 : 0 ≤ a := by rw [← ha]; exact Int.emod_nonneg _ (by decide)
  have a1 : a < 2 ^ 130 := Int.lt_trans (by rw [← ha]; exact Int.emod_lt_of_pos _ (by decide)) (by decide : (340282366920938463463374607431768211507 : Int) < 2 ^ 130)
  have q1 : gMul (.int a) (.int a) = some (.int (a * a)) := mul (lt a0 a1 (by decide)) (lt a0 a1 (by decide))
  generalize hb : a * a % 340282366920938463463374607431768211297 = b
  have b0 : 0 ≤ b := by rw [← hb]; exact Int.emod_nonneg _ (by decide)
  have b1 : b < 2 ^ 130 := Int.lt_trans (by rw [← hb]; exact Int.emod_lt_of_pos _ (by decide)) (by decide : (340282366920938463463374607431768211297 : Int) < 2 ^ 130)
  have c0 : 0 ≤ b % 18446744073709551557 + 1 := by have := Int.emod_nonneg b (by decide : (18446744073709551557 : Int) ≠ 0); omega
  have c1 : b % 18446744073709551557 + 1 < 2 ^ 130 := by have := Int.emod_lt_of_pos b (by decide : (0 : Int) < 18446744073709551557); omega
  have d0 : 0 ≤ b / 18446744073709551557 + 1 := by omega
  have d1 : b / 18446744073709551557 + 1 < 2 ^ 131 := by omega
  have q2 : gMul (.int (b % 18446744073709551557 + 1)) (.int (b / 18446744073709551557 + 1)) = some (.int ((b % 18446744073709551557 + 1) * (b / 18446744073709551557 + 1))) := mul (lt c0 c1 (by decide)) (lt d0 d1 (by decide))
  have q3 : gMul (.int ((b % 18446744073709551557 + 1) * (b / 18446744073709551557 + 1))) (.int b) = some (.int ((b % 18446744073709551557 + 1) * (b / 18446744073709551557 + 1) * b)) := by
    refine mul ?_ (lt b0 b1 (by decide))
    refine lt (n := 261) (Int.mul_nonneg c0 d0) ?_ (by decide)
    have := Int.mul_lt_mul c1 (Int.le_of_lt d1) (by omega) (by decide : (0 : Int) ≤ 2 ^ 130)
    rw [← Int.pow_add] at this
    exact this
  refine ⟨_, by simp only [m_law_drawn, b_law_drawn, fnRun, start0]; simp [p1, p2, p3, ha, q1, p4, hb, p5, p6, q2, q3]; rfl⟩
theorem roll_ex (s : Int × Int) (n : Int) (h0 : 0 < n) (h1 : n < 2 ^ 200) : ∃ (r : Int) (s' : Int × Int), m_law_roll (dcD s) [.int n] = .ok (.int r, dcD s') ∧ 0 ≤ r ∧ r < n := by
  have p1 : gPow (.int 10) (.int 18) = some (.int (10 ^ 18)) := rfl
  have p2 : ∀ x : Int, gMod (.int x) (.int n) = some (.int (x % n)) := fun x => e_mod h0
  have p3 : ∀ x : Int, gDiv (.int x) (.int n) = some (.int (x / n)) := fun x => e_div ⟨h0, h1⟩
  have p4 : ∀ x : Int, gDiv (.int x) (.int 8) = some (.int (x / 8)) := fun x => e_div (by decide)
  have n0 : L2.ixN 2 0 = some 0 := rfl
  have n1 : L2.ixN 2 1 = some 1 := rfl
  obtain ⟨c, k⟩ := s
  by_cases h : (10 ^ 18 : Int) ≤ c
  · refine ⟨c % n, (c / n, k), ?_, Int.emod_nonneg _ (by omega), Int.emod_lt_of_pos _ h0⟩
    have h' : (1000000000000000000 : Int) ≤ c := h
    simp [m_law_roll, b_law_roll, fnRunL, start1, dcD, p1, p2, p3, n0, h']
  · obtain ⟨v, hv⟩ := drawn_ok c (k + 1)
    refine ⟨v / 8 % n, (c, k + 1), ?_, Int.emod_nonneg _ (by omega), Int.emod_lt_of_pos _ h0⟩
    have h' : ¬ (1000000000000000000 : Int) ≤ c := h
    simp [m_law_roll, b_law_roll, fnRunL, start1, dcD, p1, p2, p4, n1, h', hv]
end G
set_option Elab.async false
set_option linter.all false
set_option maxRecDepth 100000
set_option maxHeartbeats 1000000
namespace G
open PySem DL
local instance : DL.TabCtx := ⟨[]⟩
theorem immL_map {α : Type} {enc : α → PyData} : ∀ {xs : List α}, (∀ x ∈ xs, imm (enc x) = true) → immL (xs.map enc) = true
  | [], _ => rfl
  | x :: xs, h => by
    show (imm (enc x) && immL (xs.map enc)) = true
    rw [h x (List.mem_cons_self ..), immL_map fun y hy => h y (List.mem_cons_of_mem _ hy)]; rfl
theorem imm_int (i : Int) : imm (.int i) = true := rfl
theorem imm_si (e : Str × Int) : imm (siD e) = true := rfl
theorem imm_ints (ns : List Int) : imm (.tuple (ns.map .int)) = true := immL_map fun _ _ => rfl
theorem imm_ears (es : List (Str × Int)) : imm (.tuple (es.map siD)) = true := immL_map fun e _ => imm_si e
theorem imm_sg (s : Sg) : imm s.d = true := by
  show (true && (imm (.tuple (s.ears.map siD)) && (imm (.tuple (s.tab.map .int)) && true))) = true
  rw [imm_ears, imm_ints]; rfl
theorem imm_sgs (ss : List Sg) : imm (.tuple (ss.map Sg.d)) = true := immL_map fun s _ => imm_sg s
theorem lcLoop_dice {β : Type} {vs : List Nat} {g : GM} {e : M PyData} (I : Int × Int → Rho) (enc : β → PyData) (Q : β → Prop) : ∀ (ds : List PyData), (∀ d ∈ ds, ∀ s, ∃ b s' ρ1 ρ2, g d (wipeR (I s) vs) = .ok ρ1 ∧ e ρ1 = .ok (enc b, ρ2) ∧ Q b ∧ wipeR ρ2 vs = wipeR (I s') vs) →
    ∀ (s : Int × Int) (ρc : Rho) (acc : List PyData), wipeR ρc vs = wipeR (I s) vs → ds.length + acc.length ≤ LIM → ∃ (bs : List β) (s' : Int × Int) (ρ' : Rho), lcLoop vs g yesT e ds ρc acc = .ok (acc ++ bs.map enc, ρ') ∧ wipeR ρ' vs = wipeR (I s') vs ∧ bs.length = ds.length ∧ ∀ b ∈ bs, Q b
  | [], _, s, ρc, acc, h, _ => ⟨[], s, ρc, by simp [lcLoop], h, rfl, fun b hb => by cases hb⟩
  | d :: ds, hs, s, ρc, acc, h, hl => by
    obtain ⟨b, s1, ρ1, ρ2, h1, h2, h3, h4⟩ := hs d (List.mem_cons_self ..) s
    simp only [List.length_cons] at hl
    obtain ⟨bs, s', ρ', k1, k2, k3, k4⟩ := lcLoop_dice I enc Q ds (fun y hy => hs y (List.mem_cons_of_mem _ hy)) s1 ρ2 (acc ++ [enc b]) h4 (by rw [List.length_append]; simp only [List.length_cons, List.length_nil]; omega)
    refine ⟨b :: bs, s', ρ', ?_, k2, by simp [k3], fun x hx => ?_⟩
    · unfold lcLoop
      rw [h, h1]
      simp only [e_yes, h2]
      rw [if_pos (by omega), k1]
      simp
    · rcases List.mem_cons.mp hx with rfl | hx
      · exact h3
      · exact k4 x hx
theorem resR_eq {ρ ρ' ρ2 : Rho} : ∀ {vs : List Nat}, (∀ v ∈ vs, ρ[v]? = ρ2[v]?) → resR ρ ρ' vs = resR ρ2 ρ' vs
  | [], _ => rfl
  | v :: vs, h => by
    unfold resR
    rw [resR_eq fun w hw => h w (List.mem_cons_of_mem _ hw), List.getD_eq_getElem?_getD, List.getD_eq_getElem?_getD, h v (List.mem_cons_self ..)]
theorem lc_dice {β : Type} {vs : List Nat} {a : M (List PyData)} {g : GM} {e : M PyData} (I : Int × Int → Rho) (enc : β → PyData) (Q : β → Prop) (ds : List PyData) (s : Int × Int) (ha : a (I s) = .ok (ds, I s)) (ho : (vs.any fun i => isOw (I s)[i]?) = false) (hl : ds.length ≤ LIM) (hI : ∀ s s', ∀ v ∈ vs, (I s)[v]? = (I s')[v]?)
    (hs : ∀ d ∈ ds, ∀ s, ∃ b s' ρ1 ρ2, g d (wipeR (I s) vs) = .ok ρ1 ∧ e ρ1 = .ok (enc b, ρ2) ∧ Q b ∧ wipeR ρ2 vs = wipeR (I s') vs) : ∃ (bs : List β) (s' : Int × Int), lcM vs a g yesT e (I s) = .ok (.list (bs.map enc), I s') ∧ bs.length = ds.length ∧ ∀ b ∈ bs, Q b := by
  obtain ⟨bs, s', ρ', k1, k2, k3, k4⟩ := lcLoop_dice I enc Q ds hs s (I s) [] rfl (by simpa using hl)
  refine ⟨bs, s', ?_, k3, k4⟩
  unfold lcM M.bind
  simp only [ha, ho, k1]
  rw [if_neg Bool.false_ne_true, resR_eq (hI s s'), resR_wipe k2]
  rfl
theorem mapM_si_map : ∀ es : List (Str × Int), (es.map siD).mapM siOf = some es
  | [] => rfl
  | e :: es => by
    rw [List.map_cons, List.mapM_cons, mapM_si_map es]; rfl
theorem sorted_ears (es : List (Str × Int)) : gSorted [.list (es.map siD)] = some (.list ((SrtQ.isort SrtQ.lexS es).map siD)) := by
  show ((es.map siD).mapM siOf).map _ = _
  rw [mapM_si_map]; rfl
theorem rising_sort {es : List (Str × Int)} (hl : es.length ≤ 2) (hn : es.Nodup) : rising SrtQ.lexS (SrtQ.isort SrtQ.lexS es) = true := by
  match es, hl with
  | [], _ => rfl
  | [a], _ => rfl
  | [a, b], _ =>
    show rising SrtQ.lexS (if SrtQ.lexS a b = true then [a, b] else [b, a]) = true
    cases h : SrtQ.lexS a b with
    | true => simp [rising, h]
    | false =>
      have hab : a ≠ b := by simpa using hn
      cases h2 : SrtQ.lexS b a with
      | true => simp [rising, h2]
      | false => exact absurd (SrtQ.lexS_tri h h2) hab
abbrev crewL (crew : List Str) : List PyData := crew.map PyData.str
def earsI (many : Int) (crew : List Str) (x3 x4 x7 : Sl) (i : Nat) (ρ : Rho) : Prop := ∃ (s' : Int × Int) (es : List (Str × Int)) (x6 x8 : Sl), ρ = [.ow (dcD s'), .sh (.int many), .sh (.list (crewL crew)), x3, x4, .ow (.list (es.map siD)), x6, x7, x8, .no] ∧ es.length ≤ i ∧ es.Nodup ∧ ∀ e ∈ es, Wd e.1 ∧ e.1 ∈ crew ∧ 1 ≤ e.2 ∧ e.2 ≤ 3
theorem singers_ears {many : Int} {crew : List Str} (hc1 : 1 ≤ crew.length) (hc3 : crew.length ≤ 3) (hw : ∀ x ∈ crew, Wd x) (n : Nat) (hn : n ≤ 2) (s : Int × Int) (x3 x4 x6 x7 x8 : Sl) :
    ∃ ρ', loopO (setS 6) b_law_any_singers_L1 (rangeD 0 n) [.ow (dcD s), .sh (.int many), .sh (.list (crewL crew)), x3, x4, .ow (.list []), x6, x7, x8, .no] = .nx ρ' ∧ earsI many crew x3 x4 x7 n ρ' := by
  have hl : (rangeD 0 n).length = n := by simp [rangeD]
  have step : ∀ (i : Nat) (d : PyData) (ρ : Rho), (rangeD 0 n)[i]? = some d → earsI many crew x3 x4 x7 i ρ → ∃ ρ1 ρ2, setS 6 d ρ = .ok ρ1 ∧ b_law_any_singers_L1 ρ1 = .nx ρ2 ∧ earsI many crew x3 x4 x7 (i + 1) ρ2 := by
    intro i d ρ hd hI
    obtain ⟨s1, es, y6, y8, rfl, hl, hnd, he⟩ := hI
    have hin : i < n := by
      have := (List.getElem?_eq_some_iff.mp hd).1
      simpa [rangeD] using this
    obtain ⟨r, s2, k1, k2, k3⟩ := roll_ex s1 crew.length (by omega) (by omega)
    obtain ⟨r2, s3, l1, l2, l3⟩ := roll_ex s2 3 (by decide) (by decide)
    obtain ⟨nm, hat, hmem⟩ : ∃ nm : Str, atD (crewL crew) r = some (.str nm) ∧ nm ∈ crew := by
      refine ⟨crew[r.toNat]'(by omega), ?_, List.getElem_mem _⟩
      unfold atD
      rw [if_pos k2, List.getElem?_map, List.getElem?_eq_getElem (by omega)]; rfl
    have hin' := gNotIn_P (j := 1) (k := 1) (x := siD (nm, 1 + r2)) (ds := es.map siD) (P_ear (hw _ hmem)) (fun y hy => by obtain ⟨e, h1, rfl⟩ := List.mem_map.mp hy; exact P_ear (he e h1).1) ((nm, 1 + r2) ∈ es) (by
      constructor
      · intro h; obtain ⟨e, h1, h2⟩ := List.mem_map.mp h; rw [← siD_inj.mp h2]; exact h1
      · exact fun h => List.mem_map.mpr ⟨_, h, rfl⟩)
    have esl : es.length < 1000000 := by omega
    have hin'' : gNotIn (.tuple [.str (nm), .int (1 + r2)]) (.list (es.map siD)) = _ := hin'
    by_cases hm : (nm, 1 + r2) ∈ es
    · rw [decide_eq_true hm] at hin''
      refine ⟨_, [.ow (dcD s3), .sh (.int many), .sh (.list (crewL crew)), x3, x4, .ow (.list (es.map siD)), .sh d, x7, .sh (siD (nm, 1 + r2)), .no], rfl, ?_, s3, es, _, _, rfl, by omega, hnd, he⟩
      simp only [b_law_any_singers_L1]
      simp [k1, l1, hat, hin'', siD]
    · rw [decide_eq_false hm] at hin''
      refine ⟨_, [.ow (dcD s3), .sh (.int many), .sh (.list (crewL crew)), x3, x4, .ow (.list ((es ++ [(nm, 1 + r2)]).map siD)), .sh d, x7, .sh (siD (nm, 1 + r2)), .no], rfl, ?_, s3, es ++ [(nm, 1 + r2)], _, _, rfl, by simp; omega, ?_, fun e h => ?_⟩
      · simp only [b_law_any_singers_L1]
        simp [k1, l1, hat, hin'', esl, siD]
      · rw [List.nodup_append]
        exact ⟨hnd, by simp, fun x hx y hy z => hm (by rw [List.mem_singleton.mp hy] at z; rw [← z]; exact hx)⟩
      · rcases List.mem_append.mp h with h | h
        · exact he e h
        · cases List.mem_singleton.mp h
          exact ⟨hw _ hmem, hmem, by omega, by omega⟩
  obtain ⟨ρ', h1, h2⟩ := loop_inv (earsI many crew x3 x4 x7) step (ρ := [.ow (dcD s), .sh (.int many), .sh (.list (crewL crew)), x3, x4, .ow (.list []), x6, x7, x8, .no]) ⟨s, [], x6, x8, rfl, Nat.le_refl 0, List.nodup_nil, fun e he => by cases he⟩
  rw [hl] at h2
  exact ⟨ρ', h1, h2⟩
end G
set_option Elab.async false
set_option linter.all false
set_option maxRecDepth 100000
set_option maxHeartbeats 1000000
namespace G
open PySem DL
local instance : DL.TabCtx := ⟨[]⟩
theorem rg1_int {r : Int} (h0 : 0 ≤ r) (h1 : r ≤ 1000000) : rg1 [.int r] = some (rangeD 0 r.toNat) := by
  have := e_rg1 (n := r.toNat) (by omega)
  rw [Int.toNat_of_nonneg h0] at this
  exact this
def singersI (many : Int) (crew : List Str) (i : Nat) (ρ : Rho) : Prop := ∃ (s : Int × Int) (ss : List Sg) (x4 x5 x6 x7 x8 : Sl), ρ = [.ow (dcD s), .sh (.int many), .sh (.list (crewL crew)), .ow (.list (ss.map Sg.d)), x4, x5, x6, x7, x8, .no] ∧ ss.map (·.name) = crew.take i ∧ ∀ s ∈ ss, GSg many crew s
theorem sort_mem {es : List (Str × Int)} {e : Str × Int} : e ∈ SrtQ.isort SrtQ.lexS es ↔ e ∈ es := (SrtQ.isort_perm es).mem_iff
theorem sort_len {es : List (Str × Int)} : (SrtQ.isort SrtQ.lexS es).length = es.length := (SrtQ.isort_perm es).length_eq
theorem places_at {many : Int} {n : Nat} (hn : n ≤ 2) : atD [.int 1, .int many, .int (many * many)] (n : Int) = some (.int (many ^ n)) := by
  have : n = 0 ∨ n = 1 ∨ n = 2 := by omega
  rcases this with rfl | rfl | rfl <;> simp [Int.pow_succ]
theorem singers_step {many : Int} (h2 : 2 ≤ many) (h4 : many ≤ 4) {crew : List Str} (hc1 : 1 ≤ crew.length) (hc3 : crew.length ≤ 3) (hw : ∀ x ∈ crew, Wd x) (i : Nat) (d : PyData) (ρ : Rho) (hd : (crewL crew)[i]? = some d) (hI : singersI many crew i ρ) :
    ∃ ρ1 ρ2, setS 4 d ρ = .ok ρ1 ∧ b_law_any_singers_L2 ρ1 = .nx ρ2 ∧ singersI many crew (i + 1) ρ2 := by
  obtain ⟨s0, ss, x4, x5, x6, x7, x8, rfl, hn, hg⟩ := hI
  rw [List.getElem?_map] at hd
  obtain ⟨nm, hnm, rfl⟩ := Option.map_eq_some_iff.mp hd
  have hi : i < crew.length := (List.getElem?_eq_some_iff.mp hnm).1
  obtain ⟨r, s1, k1, k2, k3⟩ := roll_ex s0 3 (by decide) (by decide)
  obtain ⟨ρ', l1, s2, es, y6, y8, rfl, e1, e2, e3⟩ := singers_ears (many := many) hc1 hc3 hw r.toNat (by omega) s1 (.ow (.list (ss.map Sg.d))) (.sh (.str nm)) x6 x7 x8
  have hel : es.length ≤ 2 := by omega
  have hp := pow_le h2 h4 hel
  have hm : gMul (.int many) (.int many) = some (.int (many * many)) := e_mul (by omega)
  have hrg := rg1_int (r := many ^ es.length) (by omega) (by omega)
  have hrl : (rangeD 0 (many ^ es.length).toNat).length = (many ^ es.length).toNat := by simp [rangeD]
  obtain ⟨ns, s3, m1, m2, m3⟩ := lc_dice (vs := [9]) (a := opI rg1 (aC (vN 7) aN)) (g := setS 9) (e := callL 0 m_law_roll (aC (vN 1) aN)) (fun s => [.ow (dcD s), .sh (.int many), .sh (.list (crewL crew)), .ow (.list (ss.map Sg.d)), .sh (.str nm), .ow (.list (es.map siD)), y6, .sh (.int (many ^ es.length)), y8, .no]) PyData.int (fun n => 0 ≤ n ∧ n < many) (rangeD 0 (many ^ es.length).toNat) s2 (by simp [hrg]) rfl (by rw [hrl, e_LIM]; omega) (fun _ _ v hv => by simp at hv; subst hv; rfl) (fun d _ s => by
    obtain ⟨r, s', q1, q2, q3⟩ := roll_ex s many (by omega) (by omega)
    refine ⟨r, s', _, [.ow (dcD s'), .sh (.int many), .sh (.list (crewL crew)), .ow (.list (ss.map Sg.d)), .sh (.str nm), .ow (.list (es.map siD)), y6, .sh (.int (many ^ es.length)), y8, .sh d], rfl, ?_, ⟨q2, q3⟩, rfl⟩
    simp [q1])
  rw [hrl] at m2
  have sl : ss.length < 1000000 := by
    have := congrArg List.length hn
    rw [List.length_map, List.length_take] at this
    omega
  have hrg2 := rg1_int (r := r) k2 (by omega)
  refine ⟨_, [.ow (dcD s3), .sh (.int many), .sh (.list (crewL crew)), .ow (.list ((ss ++ [Sg.mk nm (SrtQ.isort SrtQ.lexS es) ns]).map Sg.d)), .sh (.str nm), .ow (.list (es.map siD)), y6, .sh (.int (many ^ es.length)), y8, .no], rfl, ?_, s3, ss ++ [Sg.mk nm (SrtQ.isort SrtQ.lexS es) ns], _, _, _, _, _, rfl, ?_, ?_⟩
  · simp only [b_law_any_singers_L2]
    simp [k1, hrg2, l1, hm, places_at hel, sorted_ears, imm_ears, imm_int, m1, sl, Sg.d]
  · rw [List.map_append, hn, List.take_succ, hnm]; rfl
  · intro s hs
    rcases List.mem_append.mp hs with h | h
    · exact hg s h
    · cases List.mem_singleton.mp h
      exact ⟨hw _ (List.mem_of_getElem? hnm), by rw [sort_len]; exact hel, fun e he => e3 e (sort_mem.mp he), rising_sort hel e2, by show ((ns.length : Nat) : Int) = many ^ (SrtQ.isort SrtQ.lexS es).length; rw [sort_len, m2]; omega, m3⟩
theorem any_singers_ok {many : Int} (h2 : 2 ≤ many) (h4 : many ≤ 4) {crew : List Str} (hc1 : 1 ≤ crew.length) (hc3 : crew.length ≤ 3) (hw : ∀ x ∈ crew, Wd x) (s : Int × Int) :
    ∃ (ss : List Sg) (s' : Int × Int), m_law_any_singers (dcD s) [.int many, .list (crewL crew)] = .ok (.tuple (ss.map Sg.d), dcD s') ∧ ss.map (·.name) = crew ∧ ∀ s ∈ ss, GSg many crew s := by
  obtain ⟨ρ', l1, s', ss, x4, x5, x6, x7, x8, rfl, hn, hg⟩ := loop_inv (singersI many crew) (singers_step h2 h4 hc1 hc3 hw) (ρ := [.ow (dcD s), .sh (.int many), .sh (.list (crewL crew)), .ow (.list []), .no, .no, .no, .no, .no, .no]) ⟨s, [], _, _, _, _, _, rfl, rfl, fun s hs => by cases hs⟩
  rw [List.length_map, List.take_length] at hn
  refine ⟨ss, s', ?_, hn, hg⟩
  simp [m_law_any_singers, b_law_any_singers, fnRunL, start1, l1, imm_sgs]
def crew3 : List Str := ["ann", "bob", "cy"]
theorem any_choir_ok (s : Int × Int) : ∃ (many : Int) (ss : List Sg) (s' : Int × Int), m_law_any_choir (dcD s) [] = .ok (chD many ss, dcD s') ∧ Good many ss ∧ ss.map (·.name) = crew3.take ss.length ∧ (many = 2 ∧ ss.length ≤ 3 ∨ many = 3 ∧ ss.length ≤ 2 ∨ many = 4 ∧ ss.length = 1) := by
  obtain ⟨r, s1, k1, k2, k3⟩ := roll_ex s 6 (by decide) (by decide)
  have fin : ∀ (many : Int) (size : Nat), 2 ≤ many → many ≤ 4 → 1 ≤ size → size ≤ 3 → ∃ (ss : List Sg) (s' : Int × Int), m_law_any_singers (dcD s1) [.int many, .list ((crewL ["ann", "bob", "cy"]).take size)] = .ok (.tuple (ss.map Sg.d), dcD s') ∧ ss.map (·.name) = (["ann", "bob", "cy"] : List Str).take size ∧ Good many ss := by
    intro many size a1 a2 a3 a4
    have hcl : ((["ann", "bob", "cy"] : List Str).take size).length = size := by rw [List.length_take]; exact Nat.min_eq_left a4
    obtain ⟨ss, s', b1, b2, b3⟩ := any_singers_ok a1 a2 (crew := (["ann", "bob", "cy"] : List Str).take size) (by omega) (by omega) (fun x hx => by
      have := List.mem_of_mem_take hx
      simp at this
      rcases this with rfl | rfl | rfl
      · exact wd_ann
      · exact wd_bob
      · exact wd_cy) s1
    have hsl : ss.length = size := by rw [← hcl, ← b2, List.length_map]
    refine ⟨ss, s', ?_, b2, a1, a2, by omega, by omega, fun s hs => by rw [b2]; exact b3 s hs, ?_⟩
    · rw [← b1]; unfold crewL; rw [List.map_take]
    · rw [b2]
      have : size = 1 ∨ size = 2 ∨ size = 3 := by omega
      rcases this with rfl | rfl | rfl <;> decide +kernel
  have hr : r = 0 ∨ r = 1 ∨ r = 2 ∨ r = 3 ∨ r = 4 ∨ r = 5 := by omega
  have c1 : ∀ ds : List PyData, cutD ds none (some 2) = ds.take 2 := fun ds => cut_to ds 2
  have c2 : ∀ ds : List PyData, cutD ds none (some 3) = ds.take 3 := fun ds => cut_to ds 3
  have go : ∀ (many : Int) (size : Nat), atD [.tuple [.int 2, .int 1], .tuple [.int 2, .int 2], .tuple [.int 2, .int 3], .tuple [.int 3, .int 1], .tuple [.int 3, .int 2], .tuple [.int 4, .int 1]] r = some (.tuple [.int many, .int size]) → 2 ≤ many → many ≤ 4 → 1 ≤ size → size ≤ 3 →
      ∃ (ss : List Sg) (s' : Int × Int), m_law_any_choir (dcD s) [] = .ok (chD many ss, dcD s') ∧ Good many ss ∧ ss.map (·.name) = (["ann", "bob", "cy"] : List Str).take size := by
    intro many size hat a1 a2 a3 a4
    obtain ⟨ss, s', b1, b2, b3⟩ := fin many size a1 a2 a3 a4
    refine ⟨ss, s', ?_, b3, b2⟩
    have b1 : m_law_any_singers (dcD s1) [.int many, .list (cutD [.str "ann", .str "bob", .str "cy"] none (some (size : Int)))] = .ok (.tuple (ss.map Sg.d), dcD s') := by rw [cut_to]; exact b1
    simp [m_law_any_choir, b_law_any_choir, fnRunL, start1, k1, hat, b1, chD]
  have wrap : ∀ (many : Int) (size : Nat), (many = 2 ∧ size ≤ 3 ∨ many = 3 ∧ size ≤ 2 ∨ many = 4 ∧ size = 1) → size ≤ 3 → (∃ (ss : List Sg) (s' : Int × Int), m_law_any_choir (dcD s) [] = .ok (chD many ss, dcD s') ∧ Good many ss ∧ ss.map (·.name) = (["ann", "bob", "cy"] : List Str).take size) → ∃ (many : Int) (ss : List Sg) (s' : Int × Int), m_law_any_choir (dcD s) [] = .ok (chD many ss, dcD s') ∧ Good many ss ∧ ss.map (·.name) = crew3.take ss.length ∧ (many = 2 ∧ ss.length ≤ 3 ∨ many = 3 ∧ ss.length ≤ 2 ∨ many = 4 ∧ ss.length = 1) := by
    rintro many size h hs ⟨ss, s', a, b, c⟩
    have hl : ss.length = size := by
      have := congrArg List.length c
      rw [List.length_map, List.length_take] at this
      rw [this]; exact Nat.min_eq_left hs
    exact ⟨many, ss, s', a, b, by rw [hl]; exact c, by rw [hl]; exact h⟩
  rcases hr with rfl | rfl | rfl | rfl | rfl | rfl
  · exact wrap 2 1 (.inl ⟨rfl, by decide⟩) (by decide) (go 2 1 rfl (by decide) (by decide) (by decide) (by decide))
  · exact wrap 2 2 (.inl ⟨rfl, by decide⟩) (by decide) (go 2 2 rfl (by decide) (by decide) (by decide) (by decide))
  · exact wrap 2 3 (.inl ⟨rfl, by decide⟩) (by decide) (go 2 3 rfl (by decide) (by decide) (by decide) (by decide))
  · exact wrap 3 1 (.inr (.inl ⟨rfl, by decide⟩)) (by decide) (go 3 1 rfl (by decide) (by decide) (by decide) (by decide))
  · exact wrap 3 2 (.inr (.inl ⟨rfl, by decide⟩)) (by decide) (go 3 2 rfl (by decide) (by decide) (by decide) (by decide))
  · exact wrap 4 1 (.inr (.inr ⟨rfl, rfl⟩)) (by decide) (go 4 1 rfl (by decide) (by decide) (by decide) (by decide))
end G
set_option Elab.async false
set_option linter.all false
set_option maxRecDepth 100000
set_option maxHeartbeats 1000000
namespace G
open PySem DL
local instance : DL.TabCtx := ⟨[]⟩
abbrev natD (n : Nat) : PyData := .int (n : Nat)
abbrev rowD (r : List Nat) : PyData := .tuple (r.map natD)
def stD (st : List (List Nat)) : PyData := .tuple (st.map rowD)
structure GSt (m n : Nat) (st : List (List Nat)) : Prop where
  len : st.length = n
  row : ∀ r ∈ st, r.length = 3 ∧ ∀ x ∈ r, x < m
theorem natD_inj {a b : Nat} : natD a = natD b ↔ a = b := by unfold natD; rw [PyData.int.injEq]; omega
theorem are_lines_nats (ns : List Nat) (k many : Int) (hl : ns.length ≤ LIM) : m_are_lines [rowD ns, .int k, .int many] = .ok (.bool (decide ((ns.length : Int) = k) && ns.all fun n => decide ((n : Int) ≤ many - 1))) := by
  have := are_lines_ints (ns.map fun n : Nat => (n : Int)) k many (by rw [List.length_map]; exact hl)
  rw [List.map_map, List.length_map, List.all_map] at this
  have e : ((fun n : Int => decide (0 ≤ n) && decide (n ≤ many - 1)) ∘ fun n : Nat => (n : Int)) = fun n : Nat => decide ((n : Int) ≤ many - 1) := by
    funext n
    show (decide ((0 : Int) ≤ (n : Int)) && decide ((n : Int) ≤ many - 1)) = _
    rw [decide_eq_true (by omega)]; rfl
  rw [e] at this
  exact this
theorem good_standing_ok {many : Int} {m : Nat} (hm : many = m) {ss : List Sg} {st : List (List Nat)} (hl : ss.length ≤ 4) (h : GSt m ss.length st) : m_is_good_standing [chD many ss, stD st] = .ok (.bool true) := by
  have e : ((st.length : Nat) : Int) = ((ss.length : Nat) : Int) := by rw [h.len]
  simp [m_is_good_standing, b_is_good_standing, fnRun, start0, isD, chD, stD, e]
  rw [lc_map st rowD (fun _ => .bool true)]
  · simp [all_map]
  · simp
  · rfl
  · rw [h.len, e_LIM]; omega
  · intro r hr
    obtain ⟨h1, h2⟩ := h.row r hr
    have := are_lines_nats r 3 many (by rw [h1, e_LIM]; decide)
    have h3 : (r.all fun n => decide ((n : Int) ≤ many - 1)) = true := by
      rw [List.all_eq_true]; intro x hx; have := h2 x hx; exact decide_eq_true (by omega)
    rw [h1, h3, decide_eq_true (by decide)] at this
    exact ⟨_, rfl, by simp [this], rfl⟩
theorem need_standing_ok {many : Int} {m : Nat} (hm : many = m) {ss : List Sg} {st : List (List Nat)} (hl : ss.length ≤ 4) (h : GSt m ss.length st) : m_need_standing [chD many ss, stD st] = .ok .none := by
  simp [m_need_standing, b_need_standing, fnRun, start0, good_standing_ok hm hl h]
def nOf (ss : List Sg) (x : Str) : Nat := (ss.map (·.name)).idxOf x
theorem findD_str (x : Str) : ∀ xs : List Str, x ∈ xs → findD (.str x) (xs.map PyData.str) = some (xs.idxOf x)
  | y :: ys, h => by
    rw [List.map_cons, findD, List.idxOf_cons]
    by_cases e : y = x
    · subst e; simp [PyData.eqv]
    · have hx : x ∈ ys := by
        rcases List.mem_cons.mp h with z | z
        · exact absurd z.symm e
        · exact z
      have hb : (y == x) = false := by simpa using e
      simp [PyData.eqv, e, findD_str x ys hx, hb]
theorem number_ok {many : Int} {ss : List Sg} {x : Str} (hl : ss.length ≤ LIM) (hw : ∀ s ∈ ss, Wd s.name) (hx : x ∈ ss.map (·.name)) : m_number_of [chD many ss, .str x] = .ok (.int (nOf ss x : Nat)) := by
  have hP : ∀ y ∈ (ss.map fun s => PyData.str s.name), P 0 y := fun y hy => by obtain ⟨s, h1, rfl⟩ := List.mem_map.mp hy; exact .str (hw s h1).2
  have hxw : Wd x := by obtain ⟨s, h1, rfl⟩ := List.mem_map.mp hx; exact hw s h1
  have : gIndex (.list (ss.map fun s => PyData.str s.name)) [.str x] = some (.int (nOf ss x : Nat)) := by
    show (if (SeqAt.shaped (.str x) && SeqAt.shaped (.list (ss.map fun s => PyData.str s.name))) = true then (findD (.str x) (ss.map fun s => PyData.str s.name)).map fun j => PyData.int (j : Nat) else none) = _
    have h1 : (ss.map fun s => PyData.str s.name) = (ss.map (·.name)).map PyData.str := by rw [List.map_map]; rfl
    rw [(P.str (k := 0) hxw.2).shaped (by decide), (P.list hP).shaped (by decide), h1, findD_str x _ hx]
    rfl
  simp [m_number_of, b_number_of, fnRun, start0, all_names_ok hl, this]
/-- what is heard of an ear -/
def hrd (ss : List Sg) (st : List (List Nat)) (e : Str × Int) : Nat := (st.getD (nOf ss e.1) []).getD (3 - e.2).toNat 0
def plc (m : Nat) (xs : List Nat) : Nat := xs.foldl (fun a x => a * m + x) 0
theorem heard_ok {many : Int} {m : Nat} {ss : List Sg} {st : List (List Nat)} {s : Sg} (hl : ss.length ≤ LIM) (hw : ∀ s ∈ ss, Wd s.name) (hst : GSt m ss.length st) (hel : s.ears.length ≤ 2) (he : ∀ e ∈ s.ears, e.1 ∈ ss.map (·.name) ∧ 1 ≤ e.2 ∧ e.2 ≤ 3) : m_heard_by [chD many ss, stD st, s.d] = .ok (rowD (s.ears.map (hrd ss st))) := by
  simp [m_heard_by, b_heard_by, fnRun, start0, Sg.d, stD]
  rw [lc_map s.ears siD (fun e => natD (hrd ss st e))]
  · simp
  · simp
  · rfl
  · rw [e_LIM]; omega
  · intro e h
    obtain ⟨h1, h2, h3⟩ := he e h
    have h4 := number_ok (many := many) hl hw h1
    have h5 : nOf ss e.1 < st.length := by rw [hst.len, ← List.length_map (f := (·.name)) (as := ss)]; exact List.idxOf_lt_length_of_mem h1
    obtain ⟨r, h6⟩ : ∃ r, st[nOf ss e.1]? = some r := ⟨_, List.getElem?_eq_getElem h5⟩
    have h7 := (hst.row r (List.mem_of_getElem? h6)).1
    have h8 : atD (r.map natD) (3 - e.2) = some (natD (hrd ss st e)) := by
      unfold atD hrd
      have h9 : (3 - e.2).toNat < r.length := by omega
      rw [if_pos (by omega), List.getElem?_map, List.getD_eq_getElem?_getD, List.getD_eq_getElem?_getD, h6, List.getElem?_eq_getElem h9]
      show _ = some (natD ((r[(3 - e.2).toNat]?).getD 0))
      rw [List.getElem?_eq_getElem h9]; rfl
    refine ⟨_, rfl, ?_, rfl⟩
    simp [siD, h4, h6, h8]
theorem place_stepI (m a x : Int) (x1 : Sl) (hmul : gMul (.int a) (.int m) = some (.int (a * m))) : b_place_of_L1 [.sh (.int m), x1, .sh (.int a), .sh (.int x)] = .nx [.sh (.int m), x1, .sh (.int (a * m + x)), .sh (.int x)] := by
  simp [b_place_of_L1, hmul]
theorem place_loop {m : Int} (hm : -(2 ^ 64) < m ∧ m < 2 ^ 64) (x1 : Sl) (xs : List Int) : ∀ (a : Int) (x3 : Sl), ∃ x3', loopO (setS 3) b_place_of_L1 (xs.map .int) [.sh (.int m), x1, .sh (.int a), x3] = .nx [.sh (.int m), x1, .sh (.int (xs.foldl (fun a x => a * m + x) a)), x3'] := by
  induction xs with
  | nil => exact fun a x3 => ⟨x3, rfl⟩
  | cons x xs ih =>
    intro a x3
    obtain ⟨y, h⟩ := ih (a * m + x) (.sh (.int x))
    refine ⟨y, ?_⟩
    have hs : setS 3 (.int x) [.sh (.int m), x1, .sh (.int a), x3] = .ok [.sh (.int m), x1, .sh (.int a), .sh (.int x)] := rfl
    rw [List.map_cons, loopO]
    simp only [hs, place_stepI m a x x1 (e_mul hm)]
    exact h
theorem place_int {m : Int} (hm : -(2 ^ 64) < m ∧ m < 2 ^ 64) (xs : List Int) : m_place_of [.int m, .tuple (xs.map .int)] = .ok (.int (xs.foldl (fun a x => a * m + x) 0)) := by
  obtain ⟨y, h⟩ := place_loop hm (.sh (.tuple (xs.map .int))) xs 0 .no
  simp [m_place_of, b_place_of, fnRun, start0, h]
theorem foldl_cast (m : Nat) : ∀ (xs : List Nat) (a : Nat), (xs.map fun n : Nat => (n : Int)).foldl (fun a x => a * (m : Int) + x) (a : Int) = ((xs.foldl (fun a x => a * m + x) a : Nat) : Int)
  | [], a => rfl
  | x :: xs, a => by
    rw [List.map_cons, List.foldl_cons, List.foldl_cons, ← foldl_cast m xs]
    congr 1
theorem place_ok {many : Int} {m : Nat} (hm : many = m) (hm4 : m ≤ 4) (xs : List Nat) : m_place_of [.int many, rowD xs] = .ok (natD (plc m xs)) := by
  have h := place_int (m := many) (by omega) (xs.map fun n : Nat => (n : Int))
  rw [List.map_map] at h
  have e := foldl_cast m xs 0
  rw [← hm] at e
  rw [show ((0 : Nat) : Int) = 0 from rfl] at e
  rw [e] at h
  exact h
theorem plc_lt {m : Nat} {xs : List Nat} (h : ∀ x ∈ xs, x < m) : plc m xs < m ^ xs.length := by
  have : ∀ (xs : List Nat) (a k : Nat), (∀ x ∈ xs, x < m) → a < m ^ k → xs.foldl (fun a x => a * m + x) a < m ^ (k + xs.length) := by
    intro xs
    induction xs with
    | nil => intro a k _ h; simpa using h
    | cons x xs ih =>
      intro a k hx ha
      have h1 := hx x (List.mem_cons_self ..)
      have h2 : a * m + x < m ^ (k + 1) := by
        rw [Nat.pow_succ]
        have : (a + 1) * m ≤ m ^ k * m := Nat.mul_le_mul_right m ha
        rw [Nat.add_mul, Nat.one_mul] at this
        omega
      have := ih (a * m + x) (k + 1) (fun y hy => hx y (List.mem_cons_of_mem _ hy)) h2
      rw [List.foldl_cons, List.length_cons]
      rw [show k + (xs.length + 1) = k + 1 + xs.length by omega]
      exact this
  have := this xs 0 0 h (by simp)
  rw [Nat.zero_add] at this
  exact this
/-- a singer's line, by what is heard -/
def sem (m : Nat) (s : Sg) (h : Str × Int → Nat) : Int := s.tab.getD (plc m (s.ears.map h)) 0
theorem tab_at {many : Int} {m : Nat} (hm : many = m) {names : List Str} {s : Sg} (hs : GSg many names s) {xs : List Nat} (hx : ∀ x ∈ xs, x < m) (hl : xs.length = s.ears.length) : (s.tab.map PyData.int)[plc m xs]? = some (.int (s.tab.getD (plc m xs) 0)) := by
  have h1 := plc_lt hx
  have h2 := hs.tlen
  have h3 : plc m xs < s.tab.length := by
    rw [hl] at h1
    rw [hm] at h2
    have : ((m ^ s.ears.length : Nat) : Int) = (m : Int) ^ s.ears.length := by push_cast; rfl
    omega
  rw [List.getElem?_map, List.getD_eq_getElem?_getD, List.getElem?_eq_getElem h3]; rfl
theorem hrd_lt {m : Nat} {ss : List Sg} {st : List (List Nat)} (hst : GSt m ss.length st) (hm : 0 < m) (e : Str × Int) : hrd ss st e < m := by
  unfold hrd
  rw [List.getD_eq_getElem?_getD, List.getD_eq_getElem?_getD]
  cases h : st[nOf ss e.1]? with
  | none => simpa using hm
  | some r =>
    have hr := (hst.row r (List.mem_of_getElem? h)).2
    show ((r[(3 - e.2).toNat]?).getD 0) < m
    cases h2 : r[(3 - e.2).toNat]? with
    | none => simpa using hm
    | some x => exact hr x (List.mem_of_getElem? h2)
theorem table_line_ok {many : Int} {m : Nat} (hm : many = m) {ss : List Sg} (h : Good many ss) {st : List (List Nat)} (hst : GSt m ss.length st) {s : Sg} (hs : s ∈ ss) : m_table_line [chD many ss, stD st, s.d] = .ok (.int (sem m s (hrd ss st))) := by
  have h4 := h.l4
  have hg := h.sg s hs
  have m2 := h.m2
  have m4 := h.m4
  have h1 := heard_ok (many := many) (m := m) (ss := ss) (st := st) (s := s) (by rw [e_LIM]; omega) (fun s hs => (h.sg s hs).word) hst hg.elen (fun e he => (hg.ear e he).2)
  have h2 := place_ok hm (by omega) (s.ears.map (hrd ss st))
  have h3 := tab_at hm hg (xs := s.ears.map (hrd ss st)) (fun x hx => by obtain ⟨e, _, rfl⟩ := List.mem_map.mp hx; exact hrd_lt hst (by omega) e) (List.length_map ..)
  have e1 : m_heard_by [.tuple [.int many, .tuple (ss.map Sg.d)], stD st, .tuple [.str s.name, .tuple (s.ears.map siD), .tuple (s.tab.map .int)]] = _ := h1
  simp [m_table_line, b_table_line, fnRun, start0, chD, Sg.d, e1, h2]
  rw [← List.getElem?_map, h3]
  simp [sem]
def nxt (m : Nat) (ss : List Sg) (st : List (List Nat)) : List Int := ss.map fun s => sem m s (hrd ss st)
theorem all_next_ok {many : Int} {m : Nat} (hm : many = m) {ss : List Sg} (h : Good many ss) {st : List (List Nat)} (hst : GSt m ss.length st) : m_all_next [chD many ss, stD st] = .ok (.tuple ((nxt m ss st).map .int)) := by
  have h4 := h.l4
  simp [m_all_next, b_all_next, fnRun, start0]
  rw [lc_map ss Sg.d (fun s => .int (sem m s (hrd ss st)))]
  · simp [nxt, Function.comp_def]
  · simp [chD]
  · rfl
  · rw [e_LIM]; omega
  · exact fun s hs => ⟨_, rfl, by simp [table_line_ok hm h hst hs], rfl⟩
end G
set_option Elab.async false
set_option linter.all false
set_option maxRecDepth 100000
set_option maxHeartbeats 1000000
namespace G
open PySem DL
local instance : DL.TabCtx := ⟨[]⟩
theorem loop_any {α : Type} {g : GM} {fb : SM} (I : Rho → Prop) (enc : α → PyData) (p : α → Bool) (r : PyData) : ∀ (xs : List α), (∀ x ∈ xs, ∀ ρ, I ρ → ∃ ρ1 ρ2, g (enc x) ρ = .ok ρ1 ∧ I ρ2 ∧ fb ρ1 = if p x = true then .rt r ρ2 else .nx ρ2) → ∀ ρ, I ρ → ∃ ρ2, I ρ2 ∧ loopO g fb (xs.map enc) ρ = if xs.any p = true then .rt r ρ2 else .nx ρ2
  | [], _, ρ, h => ⟨ρ, h, rfl⟩
  | x :: xs, hs, ρ, h => by
    obtain ⟨ρ1, ρ2, h1, h2, h3⟩ := hs x (List.mem_cons_self ..) ρ h
    cases hp : p x with
    | true =>
      refine ⟨ρ2, h2, ?_⟩
      rw [hp, if_pos rfl] at h3
      rw [List.map_cons, loopO, h1, List.any_cons, hp]
      simp only [h3]
      rfl
    | false =>
      rw [hp, if_neg Bool.false_ne_true] at h3
      obtain ⟨ρ3, k1, k2⟩ := loop_any I enc p r xs (fun y hy => hs y (List.mem_cons_of_mem _ hy)) ρ2 h2
      refine ⟨ρ3, k1, ?_⟩
      rw [List.map_cons, loopO, h1, List.any_cons, hp, Bool.false_or]
      simp only [h3]
      exact k2
theorem setLen_ok (ns : List Int) (h : ns.length ≤ 4000) : setLen (.list (ns.map .int)) = some (.int (dd ns).length) := by
  show (intsD (ns.map .int)).bind _ = _
  rw [ints_map]
  show (if ns.length ≤ 4000 then _ else _) = _
  rw [if_pos h]
def pr (at_ : Nat) (line other : Nat) : List Nat := if at_ = 0 then [line, other] else [other, line]
def varied (ns : List Int) : Bool := decide (1 < (dd ns).length)
def rowV (m : Nat) (s : Sg) (at_ other : Nat) : List Int := (List.range m).map fun line => s.tab.getD (plc m ((pr at_ line other).take s.ears.length)) 0
def cnt (m : Nat) (s : Sg) (at_ : Nat) : Bool := (List.range (if s.ears.length = 2 then m else 1)).any fun other => varied (rowV m s at_ other)
theorem pr_len (a l o : Nat) : (pr a l o).length = 2 := by unfold pr; split <;> rfl
theorem tab_ex {many : Int} {m : Nat} (hm : many = m) {names : List Str} {s : Sg} (hs : GSg many names s) {xs : List Nat} (hx : ∀ x ∈ xs, x < m) (hl : xs.length = s.ears.length) : ∃ v, s.tab[plc m xs]? = some v := by
  have h1 := plc_lt hx
  have h2 := hs.tlen
  have h3 : plc m xs < s.tab.length := by
    rw [hl] at h1
    rw [hm] at h2
    have : ((m ^ s.ears.length : Nat) : Int) = (m : Int) ^ s.ears.length := by push_cast; rfl
    omega
  exact ⟨_, List.getElem?_eq_getElem h3⟩
theorem count_step {many : Int} {m : Nat} (hm : many = m) (h2 : 2 ≤ many) (h4 : many ≤ 4) {names : List Str} {s : Sg} (hs : GSg many names s) (at_ other : Nat) (ho : other < m) (x6 x7 x8 : Sl) (h7 : x7 = .no) (h8 : x8 = .no) :
    b_do_count_L1 [.sh (.int many), .sh s.d, .sh (.int (at_ : Nat)), .sh (.tuple (s.ears.map siD)), .sh (.tuple (s.tab.map .int)), .sh (.int (other : Nat)), x6, x7, x8] = if varied (rowV m s at_ other) = true then .rt (.bool true) [.sh (.int many), .sh s.d, .sh (.int (at_ : Nat)), .sh (.tuple (s.ears.map siD)), .sh (.tuple (s.tab.map .int)), .sh (.int (other : Nat)), .sh (.list ((List.range m).map fun line => rowD (pr at_ line other))), .no, .no] else .nx [.sh (.int many), .sh s.d, .sh (.int (at_ : Nat)), .sh (.tuple (s.ears.map siD)), .sh (.tuple (s.tab.map .int)), .sh (.int (other : Nat)), .sh (.list ((List.range m).map fun line => rowD (pr at_ line other))), .no, .no] := by
  subst h7 h8
  have hel := hs.elen
  have hrg : rg1 [.int many] = some ((List.range m).map fun i => PyData.int (i : Nat)) := by
    rw [rg1_int (by omega) (by omega), rangeD_map, hm, Int.toNat_natCast]
  have hzero : ((at_ : Nat) : Int) = 0 ↔ at_ = 0 := by omega
  have f1 := lc_map (vs := [7]) (a := opI rg1 (aC (vN 0) aN)) (g := setS 7) (e := ifV (tst (op2 gEq (vN 2) (cD (.int 0)))) (opA gTupD (aC (vN 7) (aC (vN 5) aN))) (opA gTupD (aC (vN 5) (aC (vN 7) aN)))) (ρ := [.sh (.int many), .sh s.d, .sh (.int (at_ : Nat)), .sh (.tuple (s.ears.map siD)), .sh (.tuple (s.tab.map .int)), .sh (.int (other : Nat)), x6, .no, .no])
    (List.range m) (fun i => .int (i : Nat)) (fun line => rowD (pr at_ line other)) (by simp [hrg]) rfl (by rw [List.length_range, e_LIM]; omega) (fun line _ => ⟨_, rfl, by
      by_cases h : at_ = 0
      · have h' : ((at_ : Nat) : Int) = 0 := by omega
        simp [h', pr, h]
      · have h' : ¬ ((at_ : Nat) : Int) = 0 := by omega
        simp [h', pr, h], rfl⟩)
  have f2 := lc_map (vs := [8]) (a := seqI (vN 6)) (g := setS 8) (e := op2 gIx (vN 4) (callM m_place_of (aC (vN 0) (aC (slc (vN 8) noPrt (prt (opA gLen (aC (vN 3) aN)))) aN)))) (ρ := [.sh (.int many), .sh s.d, .sh (.int (at_ : Nat)), .sh (.tuple (s.ears.map siD)), .sh (.tuple (s.tab.map .int)), .sh (.int (other : Nat)), .sh (.list ((List.range m).map fun line => rowD (pr at_ line other))), .no, .no])
    (List.range m) (fun line => rowD (pr at_ line other)) (fun line => .int (s.tab.getD (plc m ((pr at_ line other).take s.ears.length)) 0)) (by simp) rfl (by rw [List.length_range, e_LIM]; omega) (fun line hline => ⟨_, rfl, by
      have hlm : line < m := List.mem_range.mp hline
      have c1 : cutD ((pr at_ line other).map natD) none (some ((s.ears.length : Nat) : Int)) = ((pr at_ line other).map natD).take s.ears.length := cut_to _ _
      have c2 := place_ok hm (by omega) ((pr at_ line other).take s.ears.length)
      rw [rowD, List.map_take] at c2
      obtain ⟨v, c3⟩ := tab_ex hm hs (xs := (pr at_ line other).take s.ears.length) (fun x hx => by
        have := List.mem_of_mem_take hx
        unfold pr at this
        split at this
        · simp at this; rcases this with rfl | rfl
          · exact hlm
          · exact ho
        · simp at this; rcases this with rfl | rfl
          · exact ho
          · exact hlm) (by rw [List.length_take, pr_len]; omega)
      simp [c1, c2, c3], rfl⟩)
  have f3 := setLen_ok (rowV m s at_ other) (by unfold rowV; rw [List.length_map, List.length_range]; omega)
  have e3 : (List.range m).map (fun line => PyData.int (s.tab.getD (plc m ((pr at_ line other).take s.ears.length)) 0)) = (rowV m s at_ other).map .int := by unfold rowV; rw [List.map_map]; rfl
  rw [e3] at f2
  simp only [b_do_count_L1, e_seqO, e_asgO, e_exO, f1, e_setS]
  simp only [List.length_cons, List.length_nil, List.set_cons_succ, List.set_cons_zero, e_ifO, e_exO, e_tst, e_bind, e_op2, e_op1]
  by_cases hv : (1 : Int) < ((dd (rowV m s at_ other)).length : Nat)
  · have hv' : varied (rowV m s at_ other) = true := decide_eq_true (by omega)
    simp [f2, f3, hv, hv']
  · have hv' : varied (rowV m s at_ other) = false := decide_eq_false (by omega)
    simp [f2, f3, hv, hv']
end G
set_option Elab.async false
set_option linter.all false
set_option maxRecDepth 100000
set_option maxHeartbeats 1000000
namespace G
open PySem DL
local instance : DL.TabCtx := ⟨[]⟩
theorem do_count_ok {many : Int} {m : Nat} (hm : many = m) (h2 : 2 ≤ many) (h4 : many ≤ 4) {names : List Str} {s : Sg} (hs : GSg many names s) (at_ : Nat) : m_do_count [.int many, s.d, .int (at_ : Nat)] = .ok (.bool (cnt m s at_)) := by
  have hel := hs.elen
  have hk : ∀ n : Nat, n ≤ 4 → rg1 [.int (n : Nat)] = some ((List.range n).map fun i => PyData.int (i : Nat)) := fun n hn => by rw [e_rg1 (by omega), rangeD_map]
  have hrg : rg1 [.int (if s.ears.length = 2 then many else 1)] = some ((List.range (if s.ears.length = 2 then m else 1)).map fun i => PyData.int (i : Nat)) := by
    by_cases h : s.ears.length = 2
    · rw [if_pos h, if_pos h, hm]; exact hk m (by omega)
    · rw [if_neg h, if_neg h]; exact hk 1 (by omega)
  obtain ⟨ρ2, hI, hl⟩ := loop_any (g := setS 5) (fb := b_do_count_L1) (fun ρ => ∃ x5 x6, ρ = [.sh (.int many), .sh s.d, .sh (.int (at_ : Nat)), .sh (.tuple (s.ears.map siD)), .sh (.tuple (s.tab.map .int)), x5, x6, .no, .no]) (fun i => .int (i : Nat)) (fun other => varied (rowV m s at_ other)) (.bool true) (List.range (if s.ears.length = 2 then m else 1)) (fun other ho ρ hI => by
    obtain ⟨x5, x6, rfl⟩ := hI
    have ho' : other < m := by
      have := List.mem_range.mp ho
      by_cases h : s.ears.length = 2
      · rw [if_pos h] at this; exact this
      · rw [if_neg h] at this; omega
    exact ⟨_, _, rfl, ⟨_, _, rfl⟩, count_step hm h2 h4 hs at_ other ho' x6 .no .no rfl rfl⟩) [.sh (.int many), .sh s.d, .sh (.int (at_ : Nat)), .sh (.tuple (s.ears.map siD)), .sh (.tuple (s.tab.map .int)), .no, .no, .no, .no] ⟨_, _, rfl⟩
  have hd : s.d = .tuple [.str s.name, .tuple (s.ears.map siD), .tuple (s.tab.map .int)] := rfl
  have h2' : ((s.ears.length : Nat) : Int) = 2 ↔ s.ears.length = 2 := by omega
  have e1 : ∀ ρ : Rho, ρ[3]? = some (.sh (.tuple (s.ears.map siD))) → ρ[0]? = some (.sh (.int many)) → (opI rg1 (aC (ifV (tst (op2 gEq (opA gLen (aC (vN 3) aN)) (cD (.int 2)))) (vN 0) (cD (.int 1))) aN)) ρ = .ok ((List.range (if s.ears.length = 2 then m else 1)).map fun i => PyData.int (i : Nat), ρ) := by
    intro ρ r3 r0
    by_cases h : s.ears.length = 2
    · have h' : ((s.ears.length : Nat) : Int) = 2 := by omega
      rw [if_pos h, if_pos h] at hrg
      simp [r3, r0, h, hrg]
    · have h' : ¬ ((s.ears.length : Nat) : Int) = 2 := by omega
      rw [if_neg h, if_neg h] at hrg
      simp [r3, r0, h, h', hrg]
  have e2 := e1 [.sh (.int many), .sh s.d, .sh (.int (at_ : Nat)), .sh (.tuple (s.ears.map siD)), .sh (.tuple (s.tab.map .int)), .no, .no, .no, .no] rfl rfl
  have e3 : (asgO (opA gTupD (aC (op2 gIx (vN 1) (cD (.int 1))) (aC (op2 gIx (vN 1) (cD (.int 2))) aN))) (unT (gsC (setS 3) (gsC (setS 4) gsN)))) [.sh (.int many), .sh s.d, .sh (.int (at_ : Nat)), .no, .no, .no, .no, .no, .no] = .nx [.sh (.int many), .sh s.d, .sh (.int (at_ : Nat)), .sh (.tuple (s.ears.map siD)), .sh (.tuple (s.tab.map .int)), .no, .no, .no, .no] := by
    simp [hd]
  have e0 : start0 9 [.int many, s.d, .int (at_ : Nat)] = [.sh (.int many), .sh s.d, .sh (.int (at_ : Nat)), .no, .no, .no, .no, .no, .no] := rfl
  simp only [m_do_count, fnRun, b_do_count, e0, List.length_cons, List.length_nil, Nat.zero_add, Nat.reduceAdd, if_true]
  simp only [e_seqO, e3, e_forO, e_exO, e2, hl]
  unfold cnt
  cases h : (List.range (if s.ears.length = 2 then m else 1)).any fun other => varied (rowV m s at_ other) with
  | true => simp
  | false => simp
def left (m : Nat) (s : Sg) : List (Str × Int) := (s.ears.zipIdx.filter fun p => cnt m s p.2).map (·.1)
theorem enum_map {α : Type} (enc : α → PyData) : ∀ (xs : List α) (k : Nat), enumD k (xs.map enc) = (xs.zipIdx k).map fun p => .tuple [.int (p.2 : Nat), enc p.1]
  | [], k => rfl
  | x :: xs, k => by
    rw [List.map_cons, enumD, List.zipIdx_cons, List.map_cons, enum_map enc xs]
theorem ears_count_ok {many : Int} {m : Nat} (hm : many = m) (h2 : 2 ≤ many) (h4 : many ≤ 4) {names : List Str} {s : Sg} (hs : GSg many names s) : m_ears_that_count [.int many, s.d] = .ok (.tuple ((left m s).map siD)) := by
  have hel := hs.elen
  have hd : s.d = .tuple [.str s.name, .tuple (s.ears.map siD), .tuple (s.tab.map .int)] := rfl
  have f := lc_filt (vs := [2, 3]) (a := opI gEnum (aC (op2 gIx (vN 1) (cD (.int 1))) aN)) (g := unT (gsC (setS 2) (gsC (setS 3) gsN))) (t := tst (callM m_do_count (aC (vN 0) (aC (vN 1) (aC (vN 2) aN))))) (e := vN 3) (ρ := [.sh (.int many), .sh s.d, .no, .no]) (s.ears.zipIdx) (fun p => .tuple [.int (p.2 : Nat), siD p.1]) (fun p => siD p.1) (fun p => cnt m s p.2)
    (by simp [hd, gEnum, enum_map]) rfl (by rw [List.length_zipIdx, e_LIM]; omega) (fun p _ => ⟨_, rfl, by simp [do_count_ok hm h2 h4 hs p.2], fun _ => rfl, rfl⟩)
  have e0 : start0 4 [.int many, s.d] = [.sh (.int many), .sh s.d, .no, .no] := rfl
  simp only [m_ears_that_count, fnRun, b_ears_that_count, e0, List.length_cons, List.length_nil, Nat.zero_add, Nat.reduceAdd, if_true]
  simp [f, left, Function.comp_def]
/-- a singer without the ears that count nothing -/
def leanS (m : Nat) (s : Sg) : Sg := if left m s = s.ears then s else if left m s = [] then ⟨s.name, [], s.tab.take 1⟩ else ⟨s.name, left m s, (List.range m).map fun line => s.tab.getD (if (left m s)[0]? = s.ears[0]? then line * m else line) 0⟩
theorem left_sub {m : Nat} {s : Sg} : (left m s).Sublist s.ears := by
  unfold left
  have h1 : (s.ears.zipIdx.filter fun p => cnt m s p.2).Sublist s.ears.zipIdx := List.filter_sublist
  have h2 := h1.map (·.1)
  have e : s.ears.zipIdx.map (·.1) = s.ears := by
    have : ∀ (xs : List (Str × Int)) (k : Nat), (xs.zipIdx k).map (·.1) = xs := by
      intro xs
      induction xs with
      | nil => intro k; rfl
      | cons x xs ih => intro k; rw [List.zipIdx_cons, List.map_cons, ih]
    exact this _ 0
  rw [e] at h2
  exact h2
theorem lean_idx {m line : Nat} {tab : List Int} {E L : List (Str × Int)} (hl : line < m) (hE : E.length = 2) (hL : L ≠ []) (ht : tab.length = m ^ 2) : ∃ v, tab[if L[0]? = E[0]? then line * m else line]? = some v := by
  refine ⟨_, List.getElem?_eq_getElem ?_⟩
  rw [ht, Nat.pow_succ, Nat.pow_one]
  have h1 : line * m < m * m := Nat.mul_lt_mul_of_pos_right hl (by omega)
  have h2 : m ≤ m * m := Nat.le_mul_of_pos_left m (by omega)
  split
  · exact h1
  · omega
theorem mul_nat (line : Nat) {many : Int} {m : Nat} (hm : many = m) (h4 : many ≤ 4) : gMul (.int (line : Nat)) (.int many) = some (.int ((line * m : Nat) : Int)) := by
  rw [e_mul (by omega), hm, Int.natCast_mul]
theorem lean_singer_ok {many : Int} {m : Nat} (hm : many = m) (h2 : 2 ≤ many) (h4 : many ≤ 4) {names : List Str} {s : Sg} (hs : GSg many names s) : m_lean_singer [.int many, s.d] = .ok (leanS m s).d := by
  have hel := hs.elen
  have hd : s.d = .tuple [.str s.name, .tuple (s.ears.map siD), .tuple (s.tab.map .int)] := rfl
  have hsub := left_sub (m := m) (s := s)
  have hmem : ∀ e ∈ left m s, Wd e.1 := fun e he => (hs.ear e (hsub.subset he)).1
  have hPE : ∀ x ∈ s.ears.map siD, P 1 x := fun x hx => by obtain ⟨e, h1, rfl⟩ := List.mem_map.mp hx; exact P_ear (hs.ear e h1).1
  have hPL : ∀ x ∈ (left m s).map siD, P 1 x := fun x hx => by obtain ⟨e, h1, rfl⟩ := List.mem_map.mp hx; exact P_ear (hmem e h1)
  have g1 := gEq_P (P.tuple hPL) (P.tuple hPE) (left m s = s.ears) (by rw [PyData.tuple.injEq, map_inj fun _ _ => siD_inj])
  have g2 := gEq_P (P.tuple hPL) (P.tuple (k := 1) (xs := []) (fun x hx => by cases hx)) (left m s = []) (by rw [PyData.tuple.injEq, List.map_eq_nil_iff])
  have hrg : rg1 [.int many] = some ((List.range m).map fun i => PyData.int (i : Nat)) := by
    rw [rg1_int (by omega) (by omega), rangeD_map, hm, Int.toNat_natCast]
  have hc := ears_count_ok hm h2 h4 hs
  rw [hd] at hc ⊢
  by_cases c1 : left m s = s.ears
  · rw [decide_eq_true c1] at g1
    have hl : leanS m s = s := if_pos c1
    rw [hl]
    simp [m_lean_singer, b_lean_singer, fnRun, start0, hc, g1, Sg.d]
  · rw [decide_eq_false c1] at g1
    by_cases c2 : left m s = []
    · rw [decide_eq_true c2] at g2
      have hl : leanS m s = ⟨s.name, [], s.tab.take 1⟩ := by unfold leanS; rw [if_neg c1, if_pos c2]
      rw [hl]
      simp [m_lean_singer, b_lean_singer, fnRun, start0, hc, g1, g2, Sg.d]
    · rw [decide_eq_false c2] at g2
      have hE : s.ears.length = 2 := by
        have := hsub.length_le
        have h3 : (left m s).length ≠ s.ears.length := fun h => c1 (hsub.eq_of_length h)
        have h4 : (left m s).length ≠ 0 := fun h => c2 (List.length_eq_zero_iff.mp h)
        omega
      obtain ⟨a, l', hL⟩ : ∃ a l', left m s = a :: l' := by
        cases h : left m s with
        | nil => exact absurd h c2
        | cons a l' => exact ⟨a, l', rfl⟩
      obtain ⟨b, e', hE'⟩ : ∃ b e', s.ears = b :: e' := by
        cases h : s.ears with
        | nil => rw [h] at hE; cases hE
        | cons a l' => exact ⟨a, l', rfl⟩
      have ht : s.tab.length = m ^ 2 := by
        have := hs.tlen
        rw [hE, hm] at this
        have h5 : ((m ^ 2 : Nat) : Int) = (m : Int) ^ 2 := by push_cast; rfl
        omega
      have g3 := gEq_P (P_ear (k := 0) (hmem a (by rw [hL]; exact List.mem_cons_self ..))) (P_ear (k := 0) (hs.ear b (by rw [hE']; exact List.mem_cons_self ..)).1) (a = b) siD_inj
      have hcond : ((left m s)[0]? = s.ears[0]?) ↔ a = b := by rw [hL, hE']; simp
      have f1 := lc_map (vs := [7]) (a := opI rg1 (aC (vN 0) aN)) (g := setS 7) (e := ifV (tst (op2 gEq (op2 gIx (vN 5) (cD (.int 0))) (op2 gIx (vN 3) (cD (.int 0))))) (op2 gMul (vN 7) (vN 0)) (vN 7)) (ρ := [.sh (.int many), .sh s.d, .sh (.str s.name), .sh (.tuple (s.ears.map siD)), .sh (.tuple (s.tab.map .int)), .sh (.tuple ((left m s).map siD)), .no, .no, .no])
        (List.range m) (fun i => .int (i : Nat)) (fun line => .int ((if (left m s)[0]? = s.ears[0]? then line * m else line : Nat) : Int)) (by simp [hrg]) rfl (by rw [List.length_range, e_LIM]; omega) (fun line _ => ⟨_, rfl, by
          by_cases h : a = b
          · rw [decide_eq_true h] at g3
            simp only [hcond, h, if_true]
            rw [hL, hE']
            simp [g3, mul_nat line hm h4]
          · rw [decide_eq_false h] at g3
            simp only [hcond, h, if_false]
            rw [hL, hE']
            simp [g3], rfl⟩)
      have f2 := lc_map (vs := [8]) (a := seqI (vN 6)) (g := setS 8) (e := op2 gIx (vN 4) (vN 8)) (ρ := [.sh (.int many), .sh s.d, .sh (.str s.name), .sh (.tuple (s.ears.map siD)), .sh (.tuple (s.tab.map .int)), .sh (.tuple ((left m s).map siD)), .sh (.list ((List.range m).map fun line => .int ((if (left m s)[0]? = s.ears[0]? then line * m else line : Nat) : Int))), .no, .no])
        (List.range m) (fun line => .int ((if (left m s)[0]? = s.ears[0]? then line * m else line : Nat) : Int)) (fun line => .int (s.tab.getD (if (left m s)[0]? = s.ears[0]? then line * m else line) 0)) (by simp) rfl (by rw [List.length_range, e_LIM]; omega) (fun line hline => ⟨_, rfl, by
          obtain ⟨v, hv⟩ := lean_idx (List.mem_range.mp hline) hE c2 ht
          generalize (if (left m s)[0]? = s.ears[0]? then line * m else line) = k at hv ⊢
          simp [hv], rfl⟩)
      rw [hd] at f1 f2
      have fin : (leanS m s).d = .tuple [.str s.name, .tuple ((left m s).map siD), .tuple ((List.range m).map fun line => .int (s.tab.getD (if (left m s)[0]? = s.ears[0]? then line * m else line) 0))] := by
        unfold leanS
        rw [if_neg c1, if_neg c2]
        unfold Sg.d
        rw [List.map_map]; rfl
      rw [fin]
      have e0 : start0 9 [.int many, .tuple [.str s.name, .tuple (s.ears.map siD), .tuple (s.tab.map .int)]] = [.sh (.int many), .sh (.tuple [.str s.name, .tuple (s.ears.map siD), .tuple (s.tab.map .int)]), .no, .no, .no, .no, .no, .no, .no] := rfl
      simp only [m_lean_singer, fnRun, b_lean_singer, e0, List.length_cons, List.length_nil, Nat.zero_add, Nat.reduceAdd, if_true]
      simp [hc, g1, g2]
      rw [f1]
      simp
      rw [f2]
      simp
end G
set_option Elab.async false
set_option linter.all false
set_option maxRecDepth 100000
set_option maxHeartbeats 1000000
namespace G
open PySem DL
local instance : DL.TabCtx := ⟨[]⟩
theorem leaned_ok {many : Int} {m : Nat} (hm : many = m) {ss : List Sg} (h : Good many ss) : m_leaned [chD many ss] = .ok (chD many (ss.map (leanS m))) := by
  have h4 := h.l4
  simp [m_leaned, b_leaned, fnRun, start0, chD]
  rw [lc_map ss Sg.d (fun s => (leanS m s).d)]
  · simp [Function.comp_def]
  · simp
  · rfl
  · rw [e_LIM]; omega
  · exact fun s hs => ⟨_, rfl, by simp [lean_singer_ok hm h.m2 h.m4 (h.sg s hs)], rfl⟩
theorem lean_ok {many : Int} {m : Nat} (hm : many = m) {ss : List Sg} (h : Good many ss) : m_lean [chD many ss] = .ok (chD many (ss.map (leanS m))) := by
  simp [m_lean, b_lean, fnRun, start0, need_choir_ok h, leaned_ok hm h]
theorem lean_name (m : Nat) (s : Sg) : (leanS m s).name = s.name := by
  unfold leanS; split
  · rfl
  · split <;> rfl
theorem lean_ears (m : Nat) (s : Sg) : (leanS m s).ears = left m s := by
  unfold leanS; split
  · rename_i h; exact h.symm
  · split
    · rename_i h; exact h.symm
    · rfl
theorem varied_iff (ns : List Int) : varied ns = true ↔ ∃ a ∈ ns, ∃ b ∈ ns, a ≠ b := by
  have nd : ∀ xs : List Int, (dd xs).Nodup := by
    intro xs
    induction xs with
    | nil => exact List.nodup_nil
    | cons x xs ih =>
      unfold dd
      split
      · exact ih
      · rename_i h; exact List.nodup_cons.mpr ⟨fun z => h (dd_mem.mp z), ih⟩
  unfold varied
  rw [decide_eq_true_iff]
  constructor
  · intro h
    match hd : dd ns, h with
    | a :: b :: r, _ =>
      have hn := nd ns
      rw [hd] at hn
      refine ⟨a, dd_mem.mp (by rw [hd]; simp), b, dd_mem.mp (by rw [hd]; simp), fun z => ?_⟩
      subst z
      simp at hn
    | [], h => simp at h
    | [a], h => simp at h
  · rintro ⟨a, ha, b, hb, hab⟩
    have ha := dd_mem.mpr ha
    have hb := dd_mem.mpr hb
    match hd : dd ns with
    | [] => rw [hd] at ha; cases ha
    | [c] => rw [hd] at ha hb; simp at ha hb; exact absurd (ha.trans hb.symm) hab
    | _ :: _ :: _ => simp
/-- within the lines -/
def Rng (m : Nat) (h : Str × Int → Nat) : Prop := ∀ e, h e < m
/-- the line hangs on an ear -/
def Dep (m : Nat) (s : Sg) (e : Str × Int) : Prop := ∃ h h' : Str × Int → Nat, Rng m h ∧ Rng m h' ∧ (∀ f, f ≠ e → h f = h' f) ∧ sem m s h ≠ sem m s h'
theorem sem_congr {m : Nat} {s : Sg} {h h' : Str × Int → Nat} (he : ∀ e ∈ s.ears, h e = h' e) : sem m s h = sem m s h' := by
  unfold sem; rw [List.map_congr_left he]
theorem Dep.mem {m : Nat} {s : Sg} {e : Str × Int} (h : Dep m s e) : e ∈ s.ears := by
  obtain ⟨a, b, _, _, hf, hn⟩ := h
  refine Classical.byContradiction fun hc => hn (sem_congr fun f hf' => hf f fun z => hc (by rw [← z]; exact hf'))
def asg2 (e f : Str × Int) (x y : Nat) : Str × Int → Nat := fun g => if g = e then x else if g = f then y else 0
theorem asg2_rng {m : Nat} {e f : Str × Int} {x y : Nat} (hm : 0 < m) (hx : x < m) (hy : y < m) : Rng m (asg2 e f x y) := by
  intro g; unfold asg2; split
  · exact hx
  · split
    · exact hy
    · exact hm
theorem asg2_1 {e f : Str × Int} {x y : Nat} : asg2 e f x y e = x := if_pos rfl
theorem asg2_2 {e f : Str × Int} {x y : Nat} (h : e ≠ f) : asg2 e f x y f = y := by unfold asg2; rw [if_neg (Ne.symm h), if_pos rfl]
theorem rising2 {e f : Str × Int} (h : rising SrtQ.lexS [e, f] = true) : SrtQ.lexS e f = true := by simpa [rising] using h
theorem rising_ne {e f : Str × Int} (h : rising SrtQ.lexS [e, f] = true) : e ≠ f := fun z => by
  subst z
  have := rising2 h
  rw [SrtQ.lexS_asym this] at this
  cases this
theorem cnt1 {m : Nat} {s : Sg} {e : Str × Int} (he : s.ears = [e]) (hm : 0 < m) : cnt m s 0 = true ↔ Dep m s e := by
  unfold cnt
  rw [List.any_eq_true]
  simp only [varied_iff]
  have hl : s.ears.length = 1 := by rw [he]; rfl
  rw [if_neg (by omega)]
  have hrow : ∀ other line, (pr 0 line other).take s.ears.length = [line] := fun o l => by rw [hl]; rfl
  have hsem : ∀ h : Str × Int → Nat, sem m s h = s.tab.getD (plc m [h e]) 0 := fun h => by unfold sem; rw [he]; rfl
  constructor
  · rintro ⟨o, _, a, ha, b, hb, hab⟩
    obtain ⟨x, hx, rfl⟩ := List.mem_map.mp ha
    obtain ⟨y, hy, rfl⟩ := List.mem_map.mp hb
    rw [hrow, hrow] at hab
    have hx := List.mem_range.mp hx
    have hy := List.mem_range.mp hy
    refine ⟨asg2 e e x 0, asg2 e e y 0, asg2_rng hm hx hm, asg2_rng hm hy hm, fun f hf => by simp [asg2, hf], ?_⟩
    rw [hsem, hsem, asg2_1, asg2_1]; exact hab
  · rintro ⟨h, h', r, r', _, hn⟩
    rw [hsem, hsem] at hn
    refine ⟨0, by simp, _, List.mem_map.mpr ⟨h e, List.mem_range.mpr (r e), rfl⟩, _, List.mem_map.mpr ⟨h' e, List.mem_range.mpr (r' e), rfl⟩, ?_⟩
    rw [hrow, hrow]; exact hn
theorem cnt2 {m : Nat} {s : Sg} {e f : Str × Int} (he : s.ears = [e, f]) (hef : e ≠ f) (hm : 0 < m) : (cnt m s 0 = true ↔ Dep m s e) ∧ (cnt m s 1 = true ↔ Dep m s f) := by
  unfold cnt
  simp only [List.any_eq_true, varied_iff]
  have hl : s.ears.length = 2 := by rw [he]; rfl
  rw [if_pos hl]
  have hrow0 : ∀ other line, (pr 0 line other).take s.ears.length = [line, other] := fun o l => by rw [hl]; rfl
  have hrow1 : ∀ other line, (pr 1 line other).take s.ears.length = [other, line] := fun o l => by rw [hl]; rfl
  have hsem : ∀ h : Str × Int → Nat, sem m s h = s.tab.getD (plc m [h e, h f]) 0 := fun h => by unfold sem; rw [he]; rfl
  constructor
  · constructor
    · rintro ⟨o, ho, a, ha, b, hb, hab⟩
      obtain ⟨x, hx, rfl⟩ := List.mem_map.mp ha
      obtain ⟨y, hy, rfl⟩ := List.mem_map.mp hb
      rw [hrow0, hrow0] at hab
      have ho := List.mem_range.mp ho
      have hx := List.mem_range.mp hx
      have hy := List.mem_range.mp hy
      refine ⟨asg2 e f x o, asg2 e f y o, asg2_rng hm hx ho, asg2_rng hm hy ho, fun g hg => by unfold asg2; rw [if_neg hg, if_neg hg], ?_⟩
      rw [hsem, hsem, asg2_1, asg2_1, asg2_2 hef, asg2_2 hef]; exact hab
    · rintro ⟨h, h', r, r', hc, hn⟩
      rw [hsem, hsem, ← hc f (Ne.symm hef)] at hn
      refine ⟨h f, List.mem_range.mpr (r f), _, List.mem_map.mpr ⟨h e, List.mem_range.mpr (r e), rfl⟩, _, List.mem_map.mpr ⟨h' e, List.mem_range.mpr (r' e), rfl⟩, ?_⟩
      rw [hrow0, hrow0]; exact hn
  · constructor
    · rintro ⟨o, ho, a, ha, b, hb, hab⟩
      obtain ⟨x, hx, rfl⟩ := List.mem_map.mp ha
      obtain ⟨y, hy, rfl⟩ := List.mem_map.mp hb
      rw [hrow1, hrow1] at hab
      have ho := List.mem_range.mp ho
      have hx := List.mem_range.mp hx
      have hy := List.mem_range.mp hy
      refine ⟨asg2 e f o x, asg2 e f o y, asg2_rng hm ho hx, asg2_rng hm ho hy, fun g hg => by unfold asg2; rw [if_neg hg, if_neg hg], ?_⟩
      rw [hsem, hsem, asg2_1, asg2_1, asg2_2 hef, asg2_2 hef]; exact hab
    · rintro ⟨h, h', r, r', hc, hn⟩
      rw [hsem, hsem, ← hc e hef] at hn
      refine ⟨h e, List.mem_range.mpr (r e), _, List.mem_map.mpr ⟨h f, List.mem_range.mpr (r f), rfl⟩, _, List.mem_map.mpr ⟨h' f, List.mem_range.mpr (r' f), rfl⟩, ?_⟩
      rw [hrow1, hrow1]; exact hn
end G
set_option Elab.async false
set_option linter.all false
set_option maxRecDepth 100000
set_option maxHeartbeats 1000000
namespace G
open PySem DL
local instance : DL.TabCtx := ⟨[]⟩
def upd1 (h : Str × Int → Nat) (e : Str × Int) (v : Nat) : Str × Int → Nat := fun g => if g = e then v else h g
theorem upd1_rng {m : Nat} {h : Str × Int → Nat} (r : Rng m h) {e : Str × Int} {v : Nat} (hv : v < m) : Rng m (upd1 h e v) := fun g => by
  unfold upd1; split
  · exact hv
  · exact r g
theorem sem_step {m : Nat} {s : Sg} {h : Str × Int → Nat} (r : Rng m h) {e : Str × Int} {v : Nat} (hv : v < m) (hd : Dep m s e → h e = v) : sem m s h = sem m s (upd1 h e v) := by
  by_cases c : Dep m s e
  · have : upd1 h e v = h := by
      funext g; unfold upd1; split
      · rename_i z; rw [z, hd c]
      · rfl
    rw [this]
  · refine Classical.byContradiction fun hn => c ⟨h, upd1 h e v, r, upd1_rng r hv, fun f hf => ?_, hn⟩
    unfold upd1; rw [if_neg hf]
theorem sem_dep {m : Nat} {s : Sg} (hl : s.ears.length ≤ 2) {h h' : Str × Int → Nat} (r : Rng m h) (r' : Rng m h') (hd : ∀ e, Dep m s e → h e = h' e) : sem m s h = sem m s h' := by
  match he : s.ears, hl with
  | [], _ => exact sem_congr (by rw [he]; intro e hh; cases hh)
  | [e], _ =>
    rw [sem_step r (r' e) (hd e)]
    exact sem_congr (by rw [he]; intro g hg; rw [List.mem_singleton.mp hg]; exact if_pos rfl)
  | [e, f], _ =>
    rw [sem_step r (r' e) (hd e), sem_step (e := f) (upd1_rng r (r' e)) (r' f) (fun c => by
      unfold upd1
      by_cases z : f = e
      · rw [if_pos z, z]
      · rw [if_neg z]; exact hd f c)]
    refine sem_congr ?_
    rw [he]
    intro g hg
    simp at hg
    rcases hg with rfl | rfl
    · unfold upd1; split
      · rename_i z; rw [z]
      · rw [if_pos rfl]
    · exact if_pos rfl
theorem left_mem {many : Int} {m : Nat} (hm : 0 < m) {names : List Str} {s : Sg} (hs : GSg many names s) (e : Str × Int) : e ∈ left m s ↔ Dep m s e := by
  have hr := hs.rise
  have hl := hs.elen
  match he : s.ears, hl with
  | [], _ =>
    have : left m s = [] := by have := left_sub (m := m) (s := s); rw [he] at this; exact List.sublist_nil.mp this
    rw [this]
    exact ⟨fun h => (nomatch h), fun h => (by have := h.mem; rw [he] at this; exact (nomatch this))⟩
  | [a], _ =>
    have hc := cnt1 he hm
    have hleft : left m s = if cnt m s 0 = true then [a] else [] := by
      unfold left; rw [he]; cases h : cnt m s 0 <;> simp [h]
    rw [hleft]
    constructor
    · intro h
      split at h
      · rename_i c; rw [List.mem_singleton.mp h]; exact hc.mp c
      · cases h
    · intro h
      have := h.mem
      rw [he] at this
      have e1 := List.mem_singleton.mp this
      subst e1
      rw [if_pos (hc.mpr h)]; exact List.mem_singleton.mpr rfl
  | [a, b], _ =>
    rw [he] at hr
    have hab := rising_ne hr
    obtain ⟨c0, c1⟩ := cnt2 he hab hm
    have hleft : left m s = (if cnt m s 0 = true then [a] else []) ++ (if cnt m s 1 = true then [b] else []) := by
      unfold left; rw [he]; cases h : cnt m s 0 <;> cases h1 : cnt m s 1 <;> simp [h, h1]
    rw [hleft, List.mem_append]
    constructor
    · rintro (h | h)
      · split at h
        · rename_i c; rw [List.mem_singleton.mp h]; exact c0.mp c
        · cases h
      · split at h
        · rename_i c; rw [List.mem_singleton.mp h]; exact c1.mp c
        · cases h
    · intro h
      have := h.mem
      rw [he] at this
      simp at this
      rcases this with rfl | rfl
      · left; rw [if_pos (c0.mpr h)]; exact List.mem_singleton.mpr rfl
      · right; rw [if_pos (c1.mpr h)]; exact List.mem_singleton.mpr rfl
/-- the table, by what is sung -/
def tabOf (m : Nat) (s : Sg) : List (Str × Int) → List Int
  | [] => [sem m s fun _ => 0]
  | [e] => (List.range m).map fun x => sem m s (asg2 e e x 0)
  | e :: f :: _ => (List.range (m * m)).map fun i => sem m s (asg2 e f (i / m) (i % m))
theorem tab_range {tab : List Int} {n : Nat} (h : tab.length = n) : (List.range n).map (fun i => tab.getD i 0) = tab := by
  apply List.ext_getElem?
  intro i
  rw [List.getElem?_map]
  by_cases hi : i < n
  · rw [List.getElem?_range hi, Option.map_some, List.getD_eq_getElem?_getD, List.getElem?_eq_getElem (by omega)]; rfl
  · rw [List.getElem?_eq_none (by rw [List.length_range]; omega), List.getElem?_eq_none (by omega)]; rfl
theorem plc1 (m x : Nat) : plc m [x] = x := by simp [plc]
theorem plc2 (m x y : Nat) : plc m [x, y] = x * m + y := by simp [plc]
theorem tlen_nat {many : Int} {m : Nat} (hm : many = m) {names : List Str} {s : Sg} (hs : GSg many names s) : s.tab.length = m ^ s.ears.length := by
  have := hs.tlen
  rw [hm] at this
  have h5 : ((m ^ s.ears.length : Nat) : Int) = (m : Int) ^ s.ears.length := by push_cast; rfl
  omega
theorem take1 {tab : List Int} (h : 0 < tab.length) : tab.take 1 = [tab.getD 0 0] := by
  cases tab with
  | nil => simp at h
  | cons t ts => simp
theorem sem0 {m : Nat} {s : Sg} (hl : s.ears.length ≤ 2) : sem m s (fun _ => 0) = s.tab.getD 0 0 := by
  unfold sem
  match he : s.ears, hl with
  | [], _ => rfl
  | [a], _ => simp [plc]
  | [a, b], _ => simp [plc]
theorem lean_tab {many : Int} {m : Nat} (hm : many = m) (h2 : 2 ≤ many) {names : List Str} {s : Sg} (hs : GSg many names s) : (leanS m s).tab = tabOf m s (left m s) := by
  have hm0 : 0 < m := by omega
  have hr := hs.rise
  have hl := hs.elen
  have ht := tlen_nat hm hs
  have hpos : 0 < s.tab.length := by rw [ht]; exact Nat.pow_pos hm0
  have hsub := left_sub (m := m) (s := s)
  have z0 := sem0 (m := m) hl
  by_cases c2 : left m s = []
  · have hT : tabOf m s (left m s) = [s.tab.getD 0 0] := by rw [c2]; show [sem m s fun _ => 0] = _; rw [z0]
    rw [hT]
    by_cases c1 : left m s = s.ears
    · have : leanS m s = s := if_pos c1
      rw [this]
      rw [c2] at c1
      rw [← c1] at ht
      match h : s.tab, ht with
      | [t], _ => rfl
    · have : leanS m s = ⟨s.name, [], s.tab.take 1⟩ := by unfold leanS; rw [if_neg c1, if_pos c2]
      rw [this]; exact take1 hpos
  · by_cases c1 : left m s = s.ears
    · have : leanS m s = s := if_pos c1
      rw [this, c1]
      rw [c1] at c2
      match he : s.ears, hl with
      | [], _ => exact absurd he c2
      | [e], _ =>
        rw [he] at ht
        have ht : s.tab.length = m := by simpa using ht
        show s.tab = (List.range m).map fun x => sem m s (asg2 e e x 0)
        conv => lhs; rw [← tab_range ht]
        refine List.map_congr_left fun x _ => ?_
        unfold sem; rw [he, List.map_cons, List.map_nil, asg2_1, plc1]
      | [e, f], _ =>
        rw [he] at ht hr
        have hef := rising_ne hr
        have ht : s.tab.length = m * m := by simpa [Nat.pow_succ] using ht
        show s.tab = (List.range (m * m)).map fun i => sem m s (asg2 e f (i / m) (i % m))
        conv => lhs; rw [← tab_range ht]
        refine List.map_congr_left fun x _ => ?_
        unfold sem; rw [he, List.map_cons, List.map_cons, List.map_nil, asg2_1, asg2_2 hef, plc2, Nat.div_add_mod']
    · have : leanS m s = ⟨s.name, left m s, (List.range m).map fun line => s.tab.getD (if (left m s)[0]? = s.ears[0]? then line * m else line) 0⟩ := by unfold leanS; rw [if_neg c1, if_neg c2]
      rw [this]
      have hne : (left m s).length ≠ s.ears.length := fun h => c1 (hsub.eq_of_length h)
      have hn0 : (left m s).length ≠ 0 := fun h => c2 (List.length_eq_zero_iff.mp h)
      have hle := hsub.length_le
      match he : s.ears, hl with
      | [], _ => rw [he] at hle; simp at hle; exact absurd hle c2
      | [e], _ => rw [he] at hle hne; simp at hle hne; omega
      | [e, f], _ =>
        rw [he] at hr hsub hle hne
        have hef := rising_ne hr
        simp at hle hne
        obtain ⟨a, ha⟩ : ∃ a, left m s = [a] := List.length_eq_one_iff.mp (by omega)
        rw [ha]
        have hmem : a ∈ [e, f] := hsub.subset (by rw [ha]; exact List.mem_singleton.mpr rfl)
        show (List.range m).map (fun line => s.tab.getD (if ([a] : List (Str × Int))[0]? = ([e, f] : List (Str × Int))[0]? then line * m else line) 0) = (List.range m).map fun x => sem m s (asg2 a a x 0)
        refine List.map_congr_left fun x _ => ?_
        unfold sem
        rw [he, List.map_cons, List.map_cons, List.map_nil, plc2]
        simp at hmem
        rcases hmem with rfl | rfl
        · rw [if_pos (by rfl : ([a] : List (Str × Int))[0]? = ([a, f] : List (Str × Int))[0]?), asg2_1]
          have : asg2 a a x 0 f = 0 := by unfold asg2; rw [if_neg (Ne.symm hef), if_neg (Ne.symm hef)]
          rw [this, Nat.add_zero]
        · rw [if_neg (by simp; exact Ne.symm hef), asg2_1]
          have : asg2 a a x 0 e = 0 := by unfold asg2; rw [if_neg hef, if_neg hef]
          rw [this, Nat.zero_mul, Nat.zero_add]
theorem rising_srtd {es : List (Str × Int)} (hl : es.length ≤ 2) (h : rising SrtQ.lexS es = true) : SrtO.Srtd SrtQ.lexS es ∧ es.Nodup := by
  match es, hl with
  | [], _ => exact ⟨List.Pairwise.nil, List.nodup_nil⟩
  | [a], _ => exact ⟨List.pairwise_singleton _ _, by simp⟩
  | [a, b], _ => exact ⟨by simp [SrtQ.lexS_asym (rising2 h)], by simp [rising_ne h]⟩
theorem getD_map_range {f : Nat → Int} {n i : Nat} (h : i < n) : ((List.range n).map f).getD i 0 = f i := by
  rw [List.getD_eq_getElem?_getD, List.getElem?_map, List.getElem?_range h]; rfl
theorem left_len {m : Nat} {s : Sg} (hl : s.ears.length ≤ 2) : (left m s).length ≤ 2 := Nat.le_trans left_sub.length_le hl
theorem left_rise {many : Int} {m : Nat} {names : List Str} {s : Sg} (hs : GSg many names s) : rising SrtQ.lexS (left m s) = true := by
  have hsub := left_sub (m := m) (s := s)
  have hl := left_len (m := m) hs.elen
  by_cases c1 : left m s = s.ears
  · rw [c1]; exact hs.rise
  · have hne : (left m s).length ≠ s.ears.length := fun h => c1 (hsub.eq_of_length h)
    have hle := hsub.length_le
    have := hs.elen
    match h : left m s with
    | [] => rfl
    | [a] => rfl
    | _ :: _ :: _ => rw [h] at hle hne; simp at hle hne; omega
theorem lean_sem {many : Int} {m : Nat} (hm : many = m) (h2 : 2 ≤ many) {names : List Str} {s : Sg} (hs : GSg many names s) {h : Str × Int → Nat} (r : Rng m h) : sem m (leanS m s) h = sem m s h := by
  have hm0 : 0 < m := by omega
  have hl := hs.elen
  have key : ∀ h', Rng m h' → (∀ e ∈ left m s, h e = h' e) → sem m s h' = sem m s h := fun h' r' hh => (sem_dep hl r r' fun e he => hh e ((left_mem hm0 hs e).mpr he)).symm
  have e1 : sem m (leanS m s) h = (tabOf m s (left m s)).getD (plc m ((left m s).map h)) 0 := by
    have : sem m (leanS m s) h = (leanS m s).tab.getD (plc m ((leanS m s).ears.map h)) 0 := rfl
    rw [this, lean_tab hm h2 hs, lean_ears]
  rw [e1]
  have hll := left_len (m := m) hl
  have hr := left_rise (m := m) hs
  match hL : left m s, hll with
  | [], _ =>
    show sem m s (fun _ => 0) = _
    exact key _ (fun _ => hm0) fun e he => by rw [hL] at he; cases he
  | [e], _ =>
    show ((List.range m).map fun x => sem m s (asg2 e e x 0)).getD (plc m [h e]) 0 = _
    rw [plc1, getD_map_range (r e)]
    exact key _ (asg2_rng hm0 (r e) hm0) fun g hg => by rw [hL] at hg; rw [List.mem_singleton.mp hg, asg2_1]
  | [e, f], _ =>
    rw [hL] at hr
    have hef := rising_ne hr
    show ((List.range (m * m)).map fun i => sem m s (asg2 e f (i / m) (i % m))).getD (plc m [h e, h f]) 0 = _
    have hlt : h e * m + h f < m * m := by
      have h3 : (h e + 1) * m ≤ m * m := Nat.mul_le_mul_right m (r e)
      rw [Nat.add_mul, Nat.one_mul] at h3
      have := r f
      omega
    rw [plc2, getD_map_range hlt]
    have d1 : (h e * m + h f) / m = h e := by rw [Nat.mul_comm, Nat.mul_add_div hm0, Nat.div_eq_of_lt (r f), Nat.add_zero]
    have d2 : (h e * m + h f) % m = h f := by rw [Nat.mul_comm, Nat.mul_add_mod, Nat.mod_eq_of_lt (r f)]
    rw [d1, d2]
    refine key _ (asg2_rng hm0 (r e) (r f)) fun g hg => ?_
    rw [hL] at hg
    simp at hg
    rcases hg with rfl | rfl
    · rw [asg2_1]
    · rw [asg2_2 hef]
theorem sem_rng {many : Int} {m : Nat} (hm : many = m) {names : List Str} {s : Sg} (hs : GSg many names s) {h : Str × Int → Nat} (r : Rng m h) : 0 ≤ sem m s h ∧ sem m s h < many := by
  obtain ⟨v, hv⟩ := tab_ex hm hs (xs := s.ears.map h) (fun x hx => by obtain ⟨e, _, rfl⟩ := List.mem_map.mp hx; exact r e) (List.length_map ..)
  have : sem m s h = v := by unfold sem; rw [List.getD_eq_getElem?_getD, hv]; rfl
  rw [this]
  exact hs.tab v (List.mem_of_getElem? hv)
end G
set_option Elab.async false
set_option linter.all false
set_option maxRecDepth 100000
set_option maxHeartbeats 1000000
namespace G
open PySem DL
local instance : DL.TabCtx := ⟨[]⟩
theorem imm_row (r : List Nat) : imm (rowD r) = true := immL_map fun _ _ => rfl
theorem imm_st (st : List (List Nat)) : imm (stD st) = true := immL_map fun r _ => imm_row r
theorem standing_step {many : Int} {m : Nat} (hm : many = m) (h2 : 2 ≤ many) (h4 : many ≤ 4) (ss : List Sg) (s : Int × Int) (st : List (List Nat)) (hl : st.length < 1000) (d : PyData) : ∃ (s' : Int × Int) (r : List Nat), b_law_any_standing_L1 [.ow (dcD s), .sh (chD many ss), .ow (.list (st.map rowD)), .sh d, .no] = .nx [.ow (dcD s'), .sh (chD many ss), .ow (.list ((st ++ [r]).map rowD)), .sh d, .no] ∧ r.length = 3 ∧ ∀ x ∈ r, x < m := by
  have hrg : rg1 [.int 3] = some (rangeD 0 3) := rfl
  have i0 : gIx (chD many ss) (.int 0) = some (.int many) := rfl
  obtain ⟨bs, s', h1, h2, h3⟩ := lc_dice (vs := [4]) (a := opI rg1 (aC (cD (.int 3)) aN)) (g := setS 4) (e := callL 0 m_law_roll (aC (op2 gIx (vN 1) (cD (.int 0))) aN)) (fun s => [.ow (dcD s), .sh (chD many ss), .ow (.list (st.map rowD)), .sh d, .no]) natD (fun b => b < m) (rangeD 0 3) s (by simp [hrg]) rfl (by decide) (fun _ _ v hv => by simp at hv; subst hv; rfl) (fun d' _ s => by
    obtain ⟨r, s', q1, q2, q3⟩ := roll_ex s many (by omega) (by omega)
    refine ⟨r.toNat, s', _, [.ow (dcD s'), .sh (chD many ss), .ow (.list (st.map rowD)), .sh d, .sh d'], rfl, ?_, by omega, rfl⟩
    have e : natD r.toNat = .int r := by unfold natD; rw [Int.toNat_of_nonneg q2]
    rw [e]
    simp [i0, q1])
  refine ⟨s', bs, ?_, h2, h3⟩
  have al : st.length < 1000000 := by omega
  simp [b_law_any_standing_L1, h1, al]
theorem any_standing_ok {many : Int} {m : Nat} (hm : many = m) (h2 : 2 ≤ many) (h4 : many ≤ 4) (ss : List Sg) (hl : ss.length ≤ 4) (s : Int × Int) : ∃ (st : List (List Nat)) (s' : Int × Int), m_law_any_standing (dcD s) [chD many ss] = .ok (stD st, dcD s') ∧ GSt m ss.length st := by
  obtain ⟨ρ', h1, s', st, x3, rfl, hlen, hrow⟩ := loop_inv (g := setS 3) (fb := b_law_any_standing_L1) (ds := ss.map Sg.d) (fun i ρ => ∃ (s' : Int × Int) (st : List (List Nat)) (x3 : Sl), ρ = [.ow (dcD s'), .sh (chD many ss), .ow (.list (st.map rowD)), x3, .no] ∧ st.length = i ∧ ∀ r ∈ st, r.length = 3 ∧ ∀ x ∈ r, x < m) (fun i d ρ hd hI => by
    obtain ⟨s1, st, x3, rfl, h3, h4'⟩ := hI
    have hi : i < ss.length := by have := (List.getElem?_eq_some_iff.mp hd).1; rw [List.length_map] at this; exact this
    obtain ⟨s2, r, k1, k2, k3⟩ := standing_step hm h2 h4 ss s1 st (by omega) d
    refine ⟨_, _, rfl, k1, s2, st ++ [r], .sh d, rfl, by simp [h3], fun q hq => ?_⟩
    rcases List.mem_append.mp hq with h | h
    · exact h4' q h
    · rw [List.mem_singleton.mp h]; exact ⟨k2, k3⟩) (ρ := [.ow (dcD s), .sh (chD many ss), .ow (.list []), .no, .no]) ⟨s, [], .no, rfl, rfl, fun r hr => by cases hr⟩
  rw [List.length_map] at hlen
  have i1 : gIx (chD many ss) (.int 1) = some (.tuple (ss.map Sg.d)) := rfl
  have him : imm (.tuple (st.map rowD)) = true := imm_st st
  refine ⟨st, s', ?_, hlen, hrow⟩
  simp [m_law_any_standing, b_law_any_standing, fnRunL, start1, i1, h1, him, stD]
theorem zipD_map2 {α β : Type} (f : α → PyData) (g : β → PyData) (xs : List α) (ys : List β) : zipD (xs.map f) (ys.map g) = (xs.zip ys).map fun p => .tuple [f p.1, g p.2] := by
  unfold zipD
  rw [List.zip_map, List.map_map]; rfl
def beh (st : List (List Nat)) (ls : List Nat) : List (List Nat) := (st.zip ls).map fun p => p.1.drop 1 ++ [p.2]
theorem behind_ok {st : List (List Nat)} {ls : List Nat} (hl : st.length ≤ 1000) (hr : ∀ r ∈ st, r.length ≤ 1000) : m_behind [stD st, rowD ls] = .ok (stD (beh st ls)) := by
  have hz : gZip [.tuple (st.map rowD), .tuple (ls.map natD)] = some ((st.zip ls).map fun p => .tuple [rowD p.1, natD p.2]) := by
    show some (zipD (st.map rowD) (ls.map natD)) = _
    rw [zipD_map2]
  simp only [m_behind, b_behind, fnRun, start0, stD]
  simp
  rw [lc_map (st.zip ls) (fun p => .tuple [rowD p.1, natD p.2]) (fun p => rowD (p.1.drop 1 ++ [p.2]))]
  · simp [beh, Function.comp_def]
  · simp [hz]
  · rfl
  · rw [List.length_zip, e_LIM]; omega
  · intro p hp
    have h1 := hr p.1 (List.of_mem_zip hp).1
    have h2 : gAdd (.tuple ((p.1.map natD).drop 1)) (.tuple [natD p.2]) = some (rowD (p.1.drop 1 ++ [p.2])) := by
      have : ((p.1.map natD).drop 1).length + [natD p.2].length ≤ LIM := by simp; omega
      rw [show gAdd (.tuple ((p.1.map natD).drop 1)) (.tuple [natD p.2]) = if ((p.1.map natD).drop 1).length + [natD p.2].length ≤ LIM then some (.tuple ((p.1.map natD).drop 1 ++ [natD p.2])) else none from rfl, if_pos this]
      unfold rowD; rw [List.map_append, List.map_drop]; rfl
    refine ⟨_, rfl, ?_, rfl⟩
    simp only [rowD] at h2 ⊢
    simp
    rw [← List.drop_one, h2]
    simp
def nxN (m : Nat) (ss : List Sg) (st : List (List Nat)) : List Nat := (nxt m ss st).map Int.toNat
theorem nxN_d {many : Int} {m : Nat} (hm : many = m) {ss : List Sg} (h : Good many ss) {st : List (List Nat)} (hst : GSt m ss.length st) : (PyData.tuple ((nxt m ss st).map .int)) = rowD (nxN m ss st) := by
  unfold rowD nxN nxt
  rw [List.map_map, List.map_map, List.map_map]
  congr 1
  refine List.map_congr_left fun s hs => ?_
  have m2 := h.m2
  have := (sem_rng hm (h.sg s hs) fun e => hrd_lt hst (by omega) e).1
  show PyData.int _ = natD (Int.toNat _)
  unfold natD; rw [Int.toNat_of_nonneg this]
def onV (m : Nat) (ss : List Sg) (st : List (List Nat)) : List (List Nat) := beh st (nxN m ss st)
theorem nxN_len {m : Nat} {ss : List Sg} {st : List (List Nat)} : (nxN m ss st).length = ss.length := by unfold nxN nxt; rw [List.length_map, List.length_map]
theorem onV_good {many : Int} {m : Nat} (hm : many = m) {ss : List Sg} (h : Good many ss) {st : List (List Nat)} (hst : GSt m ss.length st) : GSt m ss.length (onV m ss st) := by
  refine ⟨by unfold onV beh; rw [List.length_map, List.length_zip, nxN_len, hst.len, Nat.min_self], fun r hr => ?_⟩
  obtain ⟨p, hp, rfl⟩ := List.mem_map.mp hr
  obtain ⟨h1, h2⟩ := hst.row p.1 (List.of_mem_zip hp).1
  have m2 := h.m2
  refine ⟨by rw [List.length_append, List.length_drop, h1]; rfl, fun x hx => ?_⟩
  rcases List.mem_append.mp hx with hx | hx
  · exact h2 x (List.mem_of_mem_drop hx)
  · rw [List.mem_singleton.mp hx]
    obtain ⟨v, hv, e⟩ := List.mem_map.mp (List.of_mem_zip hp).2
    obtain ⟨s, hs, rfl⟩ := List.mem_map.mp hv
    have := sem_rng hm (h.sg s hs) fun e => hrd_lt hst (by omega) e
    rw [← e]; omega
theorem on_ok {many : Int} {m : Nat} (hm : many = m) {ss : List Sg} (h : Good many ss) {st : List (List Nat)} (hst : GSt m ss.length st) : m_on [chD many ss, stD st] = .ok (stD (onV m ss st)) := by
  have h4 := h.l4
  have h1 := all_next_ok hm h hst
  rw [nxN_d hm h hst] at h1
  have h2 := behind_ok (st := st) (ls := nxN m ss st) (by rw [hst.len]; omega) (fun r hr => by rw [(hst.row r hr).1]; decide)
  simp [m_on, b_on, fnRun, start0, h1, h2, onV]
def stAt (m : Nat) (ss : List Sg) (st : List (List Nat)) : Nat → List (List Nat)
  | 0 => st
  | n + 1 => onV m ss (stAt m ss st n)
theorem stAt_good {many : Int} {m : Nat} (hm : many = m) {ss : List Sg} (h : Good many ss) {st : List (List Nat)} (hst : GSt m ss.length st) : ∀ n, GSt m ss.length (stAt m ss st n)
  | 0 => hst
  | n + 1 => onV_good hm h (stAt_good hm h hst n)
def rowsV (m : Nat) (ss : List Sg) (st : List (List Nat)) (n : Nat) : List (List Nat) := (List.range n).map fun i => nxN m ss (stAt m ss st i)
theorem rows_of_ok {many : Int} {m : Nat} (hm : many = m) {ss : List Sg} (h : Good many ss) {st : List (List Nat)} (hst : GSt m ss.length st) {N : Int} (h0 : 0 ≤ N) (hn : N ≤ 1000) : m_rows_of [chD many ss, stD st, .int N] = .ok (.list ((rowsV m ss st N.toNat).map rowD)) := by
  obtain ⟨ρ', h1, x4, rfl⟩ := loop_inv (g := setS 4) (fb := b_rows_of_L1) (ds := rangeD 0 N.toNat) (fun i ρ => ∃ x4 : Sl, ρ = [.sh (chD many ss), .sh (stD (stAt m ss st i)), .sh (.int N), .ow (.list ((rowsV m ss st i).map rowD)), x4]) (fun i d ρ hd hI => by
    obtain ⟨x4, rfl⟩ := hI
    have hi : i < N.toNat := by have := (List.getElem?_eq_some_iff.mp hd).1; simpa [rangeD] using this
    have hg := stAt_good hm h hst i
    have k1 := all_next_ok hm h hg
    rw [nxN_d hm h hg] at k1
    have k2 := on_ok hm h hg
    have hl : (rowsV m ss st i).length < 1000000 := by unfold rowsV; rw [List.length_map, List.length_range]; omega
    refine ⟨_, [.sh (chD many ss), .sh (stD (stAt m ss st (i + 1))), .sh (.int N), .ow (.list ((rowsV m ss st (i + 1)).map rowD)), .sh d], rfl, ?_, _, rfl⟩
    have e : rowsV m ss st (i + 1) = rowsV m ss st i ++ [nxN m ss (stAt m ss st i)] := by unfold rowsV; rw [List.range_succ, List.map_append]; rfl
    rw [e]
    simp [b_rows_of_L1, k1, k2, hl, stAt]) (ρ := [.sh (chD many ss), .sh (stD st), .sh (.int N), .ow (.list []), .no]) ⟨_, rfl⟩
  have hl : (rangeD 0 N.toNat).length = N.toNat := by simp [rangeD]
  rw [hl] at h1
  have hrg := rg1_int h0 (by omega : N ≤ 1000000)
  simp [m_rows_of, b_rows_of, fnRun, start0, hrg, h1]
end G
set_option Elab.async false
set_option linter.all false
set_option maxRecDepth 100000
set_option maxHeartbeats 1000000
namespace G
open PySem DL
local instance : DL.TabCtx := ⟨[]⟩
def tups (m : Nat) : Nat → List (List Nat)
  | 0 => [[]]
  | k + 1 => (tups m k).flatMap fun o => (List.range m).map fun l => o ++ [l]
end G
set_option Elab.async false
set_option linter.all false
set_option maxRecDepth 100000
set_option maxHeartbeats 1000000
namespace G
open PySem DL
local instance : DL.TabCtx := ⟨[]⟩
section
variable {ρ : Rho} {d x y z : PyData} {ds : List PyData} {i j : Nat} {a b c : M PyData} {t : M Bool} {as : M (List PyData)} {ss : M (List Sl)} {f g : SM}
@[simp] theorem e_xN : xN ρ = .ok ([], ρ) := rfl
@[simp] theorem e_xSh : xSh a ss ρ = (M.bind a fun x => M.bind ss fun xs => M.pure (.sh x :: xs)) ρ := rfl
@[simp] theorem e_xOw : xOw a ss ρ = (M.bind a fun x => M.bind ss fun xs => M.pure (.ow x :: xs)) ρ := rfl
@[simp] theorem e_parO {is : List Nat} : parO is ss ρ = (exO ss fun ss ρ => if ss.length = is.length then .nx (setL is ss ρ) else .bad) ρ := rfl
@[simp] theorem e_setL {k : Nat} {ks : List Nat} {s : Sl} {ss : List Sl} : setL (k :: ks) (s :: ss) ρ = setL ks ss (ρ.set k s) := rfl
@[simp] theorem e_setL0 : setL [] [] ρ = ρ := rfl
@[simp] theorem e_ownFO : ownFO i a ρ = (exO a fun d ρ => .nx (ρ.set i (.ow d))) ρ := rfl
@[simp] theorem e_retF : retF a ρ = (exO a fun d ρ => .rf d ρ) ρ := rfl
@[simp] theorem e_callF {m : List PyData → R PyData} : callF m as ρ = (M.bind as fun ds => M.lift (immR (m ds))) ρ := rfl
@[simp] theorem e_slcL {l h : M (Option Int)} : slcL a l h ρ = (M.bind a fun x => M.bind l fun l => M.bind h fun h => M.opt (gCutL l h x)) ρ := rfl
@[simp] theorem e_cutL {lo hi : Option Int} : gCutL lo hi (.list ds) = some (.list (cutD ds lo hi)) := rfl
@[simp] theorem e_dsetO : dsetO i b a ρ = (exO a fun dv ρ => if isOw ρ[i]? = true then exO b (fun dk ρ => match ρ[i]? with
  | some (.ow (.dict ps)) => if keyOk ps dk = true ∧ ps.length < LIM then .nx (ρ.set i (.ow (.dict (dput ps dk dv)))) else .bad
  | _ => .bad) ρ else .bad) ρ := rfl
@[simp] theorem e_isDict {ps : List (PyData × PyData)} : isDict (.dict ps) = true := rfl
@[simp] theorem e_dget1 : dget1 a b ρ = (M.bind a fun d => if isDict d = true then M.bind b fun k => M.opt (gGet1 d k) else fun _ => .bad) ρ := rfl
@[simp] theorem e_dget2 : dget2 a b c ρ = (M.bind a fun d => if isDict d = true then M.bind b fun k => M.bind c fun x => M.opt (gGet2 d k x) else fun _ => .bad) ρ := rfl
@[simp] theorem e_whileO {n : Nat} : whileO n t f ρ = whileN t f n ρ := rfl
@[simp] theorem e_neg {k : Int} : gNeg (.int k) = some (.int (-k)) := rfl
end
theorem len_le_sub {α : Type} [DecidableEq α] : ∀ {l m : List α}, l.Nodup → (∀ x ∈ l, x ∈ m) → l.length ≤ m.length
  | [], _, _, _ => Nat.zero_le _
  | x :: l, m, h, hs => by
    obtain ⟨h1, h2⟩ := List.nodup_cons.mp h
    have hx := hs x (List.mem_cons_self ..)
    have := len_le_sub (l := l) (m := m.erase x) h2 fun y hy => by
      have ne : y ≠ x := fun e => h1 (by rw [← e]; exact hy)
      exact (List.mem_erase_of_ne ne).mpr (hs y (List.mem_cons_of_mem _ hy))
    rw [List.length_erase_of_mem hx] at this
    have : 0 < m.length := List.length_pos_of_mem hx
    simp only [List.length_cons]
    omega
end G
set_option Elab.async false
set_option linter.all false
set_option maxRecDepth 100000
set_option maxHeartbeats 1000000
namespace G
open PySem DL
local instance : DL.TabCtx := ⟨[]⟩
@[simp] theorem imm_intS (i : Int) : imm (.int i) = true := rfl
def knownD (f : Nat → List (List Nat)) (i : Nat) : List (PyData × PyData) := (List.range i).map fun j => (stD (f j), natD j)
def rowSt (f : Nat → List (List Nat)) (i : Nat) : List PyData := (List.range i).map fun j => stD (f j)
@[simp] theorem rowSt_len (f : Nat → List (List Nat)) (i : Nat) : (rowSt f i).length = i := by unfold rowSt; simp
@[simp] theorem knownD_len (f : Nat → List (List Nat)) (i : Nat) : (knownD f i).length = i := by unfold knownD; simp
end G
set_option Elab.async false
set_option linter.all false
set_option maxRecDepth 100000
set_option maxHeartbeats 1000000
namespace G
open PySem DL
local instance : DL.TabCtx := ⟨[]⟩
theorem lcrew_ok {many : Int} {ss : List Sg} (hl : ss.length ≤ LIM) : m_law_crew [chD many ss] = .ok (.list (ss.map fun s => .str s.name)) := by
  simp [m_law_crew, b_law_crew, fnRun, start0, chD]
  rw [lc_map ss Sg.d (fun s => .str s.name)]
  · simp
  · rfl
  · exact hl
  · exact fun s hs => ⟨_, rfl, by simp [Sg.d], rfl⟩
def col (st : List (List Nat)) (j : Nat) : List Nat := st.map fun r => r.getD j 0
def hist3 (st : List (List Nat)) : List (List Nat) := (List.range 3).map (col st)
/-- what is heard of an ear by a history -/
def hh (ss : List Sg) (hs : List (List Nat)) (b : Nat) (e : Str × Int) : Nat := (hs.getD ((b : Int) + 3 - e.2).toNat []).getD (nOf ss e.1) 0
section
variable (m : Nat) (ss : List Sg) (ld : Nat → Str → Option Nat)
def lrow (b : Nat) (st : List (List Nat)) : List Nat := ss.map fun s => (ld b s.name).getD (sem m s (hrd ss st)).toNat
def stL (st : List (List Nat)) : Nat → List (List Nat)
  | 0 => st
  | b + 1 => beh (stL st b) (lrow m ss ld b (stL st b))
def rowsL (st : List (List Nat)) (n : Nat) : List (List Nat) := (List.range n).map fun b => lrow m ss ld b (stL m ss ld st b)
def histL (st : List (List Nat)) (b : Nat) : List (List Nat) := hist3 st ++ rowsL m ss ld st b
end
section
variable {many : Int} {m : Nat} {ss : List Sg} {ld : Nat → Str → Option Nat} {st : List (List Nat)}
theorem lrow_len {b : Nat} {st : List (List Nat)} : (lrow m ss ld b st).length = ss.length := by unfold lrow; rw [List.length_map]
theorem lrow_lt (hm : many = m) (h : Good many ss) (hst : GSt m ss.length st) {b : Nat} (hl : ∀ x l, ld b x = some l → l < m) : ∀ x ∈ lrow m ss ld b st, x < m := by
  intro x hx
  obtain ⟨s, hs, rfl⟩ := List.mem_map.mp hx
  have m2 := h.m2
  cases e : ld b s.name with
  | some l => exact hl _ _ e
  | none =>
    have := sem_rng hm (h.sg s hs) fun e => hrd_lt hst (by omega) e
    show (sem m s (hrd ss st)).toNat < m
    omega
theorem beh_good {n : Nat} (hst : GSt m n st) {r : List Nat} (hr : r.length = n) (hx : ∀ x ∈ r, x < m) : GSt m n (beh st r) := by
  refine ⟨by unfold beh; rw [List.length_map, List.length_zip, hr, hst.len, Nat.min_self], fun q hq => ?_⟩
  obtain ⟨p, hp, rfl⟩ := List.mem_map.mp hq
  obtain ⟨h1, h2⟩ := hst.row p.1 (List.of_mem_zip hp).1
  refine ⟨by rw [List.length_append, List.length_drop, h1]; rfl, fun x hx' => ?_⟩
  rcases List.mem_append.mp hx' with hx' | hx'
  · exact h2 x (List.mem_of_mem_drop hx')
  · rw [List.mem_singleton.mp hx']; exact hx _ (List.of_mem_zip hp).2
theorem stL_good (hm : many = m) (h : Good many ss) (hst : GSt m ss.length st) (hl : ∀ b x l, ld b x = some l → l < m) : ∀ b, GSt m ss.length (stL m ss ld st b)
  | 0 => hst
  | b + 1 => beh_good (stL_good hm h hst hl b) lrow_len (lrow_lt hm h (stL_good hm h hst hl b) (hl b))
theorem beh_at {n : Nat} (hst : GSt m n st) {r : List Nat} (hr : r.length = n) {i : Nat} (hi : i < n) : (beh st r).getD i [] = (st.getD i []).drop 1 ++ [r.getD i 0] := by
  unfold beh
  have h1 : i < st.length := by rw [hst.len]; exact hi
  have h2 : i < r.length := by omega
  rw [List.getD_eq_getElem?_getD, List.getElem?_map, List.getD_eq_getElem?_getD, List.getD_eq_getElem?_getD, List.getElem?_eq_getElem h1, List.getElem?_eq_getElem h2]
  have : (st.zip r)[i]? = some (st[i], r[i]) := by rw [List.getElem?_zip_eq_some]; exact ⟨List.getElem?_eq_getElem h1, List.getElem?_eq_getElem h2⟩
  rw [this]; rfl
theorem histL_len {b : Nat} : (histL m ss ld st b).length = b + 3 := by
  unfold histL hist3 rowsL
  rw [List.length_append, List.length_map, List.length_map, List.length_range, List.length_range]; omega
theorem histL_succ {b : Nat} : histL m ss ld st (b + 1) = histL m ss ld st b ++ [lrow m ss ld b (stL m ss ld st b)] := by
  unfold histL rowsL
  rw [List.range_succ, List.map_append, List.append_assoc]; rfl
/-- the standing ahead of a beat stands in the history -/
theorem hist_at (hm : many = m) (h : Good many ss) (hst : GSt m ss.length st) (hl : ∀ b x l, ld b x = some l → l < m) : ∀ (b : Nat) {i j : Nat}, i < ss.length → j < 3 → ((histL m ss ld st b).getD (b + j) []).getD i 0 = ((stL m ss ld st b).getD i []).getD j 0
  | 0, i, j, hi, hj => by
    have hi' : i < st.length := by rw [hst.len]; exact hi
    have e : histL m ss ld st 0 = hist3 st := by unfold histL rowsL; simp
    have e2 : (hist3 st).getD (0 + j) [] = col st j := by
      unfold hist3
      rw [Nat.zero_add, List.getD_eq_getElem?_getD, List.getElem?_map, List.getElem?_range hj]; rfl
    rw [e, e2]
    show (col st j).getD i 0 = (st.getD i []).getD j 0
    unfold col
    rw [List.getD_eq_getElem?_getD, List.getElem?_map, List.getElem?_eq_getElem hi']
    show st[i].getD j 0 = (st.getD i []).getD j 0
    rw [List.getD_eq_getElem?_getD (l := st), List.getElem?_eq_getElem hi']; rfl
  | b + 1, i, j, hi, hj => by
    have hg := stL_good hm h hst hl b
    have ih := fun j hj => hist_at hm h hst hl b (i := i) (j := j) hi hj
    have hrow : ((stL m ss ld st b).getD i []).length = 3 := by
      have hi' : i < (stL m ss ld st b).length := by rw [hg.len]; exact hi
      rw [List.getD_eq_getElem?_getD, List.getElem?_eq_getElem hi']
      exact (hg.row _ (List.getElem_mem hi')).1
    have eb : (stL m ss ld st (b + 1)).getD i [] = ((stL m ss ld st b).getD i []).drop 1 ++ [(lrow m ss ld b (stL m ss ld st b)).getD i 0] := beh_at hg lrow_len hi
    rw [eb, histL_succ]
    have hlen := histL_len (m := m) (ss := ss) (ld := ld) (st := st) (b := b)
    by_cases h2 : j < 2
    · have a1 : (histL m ss ld st b ++ [lrow m ss ld b (stL m ss ld st b)]).getD (b + 1 + j) [] = (histL m ss ld st b).getD (b + (j + 1)) [] := by
        rw [List.getD_eq_getElem?_getD, List.getElem?_append_left (by omega), List.getD_eq_getElem?_getD, show b + 1 + j = b + (j + 1) by omega]
      rw [a1, ih (j + 1) (by omega)]
      generalize (stL m ss ld st b).getD i [] = rr at hrow
      rw [List.getD_eq_getElem?_getD, List.getD_eq_getElem?_getD, List.getElem?_append_left (by rw [List.length_drop, hrow]; omega), List.getElem?_drop, Nat.add_comm 1 j]
    · have e2 : j = 2 := by omega
      subst e2
      have a1 : (histL m ss ld st b ++ [lrow m ss ld b (stL m ss ld st b)]).getD (b + 1 + 2) [] = lrow m ss ld b (stL m ss ld st b) := by
        rw [List.getD_eq_getElem?_getD, List.getElem?_append_right (by omega), hlen, show b + 1 + 2 - (b + 3) = 0 by omega]; rfl
      rw [a1]
      conv => rhs; rw [List.getD_eq_getElem?_getD, List.getElem?_append_right (by rw [List.length_drop, hrow]; omega), List.length_drop, hrow]
      rfl
theorem hh_hrd (hm : many = m) (h : Good many ss) (hst : GSt m ss.length st) (hl : ∀ b x l, ld b x = some l → l < m) (b : Nat) {e : Str × Int} (he : e.1 ∈ ss.map (·.name) ∧ 1 ≤ e.2 ∧ e.2 ≤ 3) : hh ss (histL m ss ld st b) b e = hrd ss (stL m ss ld st b) e := by
  unfold hh hrd
  have hi : nOf ss e.1 < ss.length := by
    rw [← List.length_map (f := (·.name)) (as := ss)]; exact List.idxOf_lt_length_of_mem he.1
  have := hist_at hm h hst hl b (i := nOf ss e.1) (j := (3 - e.2).toNat) hi (by omega)
  rw [← this]
  congr 2
  omega
theorem hh_lt (hm : many = m) (h : Good many ss) (hst : GSt m ss.length st) (hl : ∀ b x l, ld b x = some l → l < m) (b : Nat) (e : Str × Int) : hh ss (histL m ss ld st b) b e < m := by
  have m2 := h.m2
  unfold hh
  rw [List.getD_eq_getElem?_getD, List.getD_eq_getElem?_getD]
  cases q : (histL m ss ld st b)[((b : Int) + 3 - e.2).toNat]? with
  | none => show ([] : List Nat)[nOf ss e.1]?.getD 0 < m; simp; omega
  | some r =>
    show r[nOf ss e.1]?.getD 0 < m
    have hx : ∀ x ∈ r, x < m := by
      rcases List.mem_append.mp (List.mem_of_getElem? q) with z | z
      · obtain ⟨j, _, rfl⟩ := List.mem_map.mp z
        intro x hx
        obtain ⟨r, hr, rfl⟩ := List.mem_map.mp hx
        rw [List.getD_eq_getElem?_getD]
        cases q2 : r[j]? with
        | none => show 0 < m; omega
        | some y => exact (hst.row r hr).2 y (List.mem_of_getElem? q2)
      · obtain ⟨j, _, rfl⟩ := List.mem_map.mp z
        exact lrow_lt hm h (stL_good hm h hst hl j) (hl j)
    cases q2 : r[nOf ss e.1]? with
    | none => show 0 < m; omega
    | some y => exact hx y (List.mem_of_getElem? q2)
theorem sem_hh (hm : many = m) (h : Good many ss) (hst : GSt m ss.length st) (hl : ∀ b x l, ld b x = some l → l < m) (b : Nat) {s : Sg} (hs : s ∈ ss) : sem m s (hh ss (histL m ss ld st b) b) = sem m s (hrd ss (stL m ss ld st b)) := by
  unfold sem
  congr 2
  exact List.map_congr_left fun e he => hh_hrd hm h hst hl b ((h.sg s hs).ear e he).2
end
theorem nkey_spot (b : Int) (x : Str) : nkey (.tuple [.int b, .str x]) = some (.tup [.num b, .text x]) := by
  rw [nkey, nkeys, nkeys, nkeys, nkey, nkey]; rfl
theorem deep_spot (b : Int) (x : Str) : deepD (.tuple [.int b, .str x]) = true := by
  unfold deepD
  rw [nkey_spot]
  refine decide_eq_true ?_
  simp [NestedKey.depth, NestedKey.depthAll]
end G
set_option Elab.async false
set_option linter.all false
set_option maxRecDepth 100000
set_option maxHeartbeats 1000000
namespace G
open PySem DL
local instance : DL.TabCtx := ⟨[]⟩
theorem imm_list {α : Type} {enc : α → PyData} {xs : List α} (h : ∀ x, imm (enc x) = true) : immC (.list (xs.map enc)) = true := immL_map fun x _ => h x
@[simp] theorem immR_ok {d : PyData} (h : immC d = true) : immR (.ok d) = .ok d := if_pos h
theorem stL_none {m : Nat} {ss : List Sg} {st : List (List Nat)} : ∀ b, stL m ss (fun _ _ => none) st b = stAt m ss st b
  | 0 => rfl
  | b + 1 => by
    show beh (stL m ss (fun _ _ => none) st b) (lrow m ss (fun _ _ => none) b (stL m ss (fun _ _ => none) st b)) = onV m ss (stAt m ss st b)
    rw [stL_none b]
    unfold onV lrow nxN nxt
    rw [List.map_map]; rfl
theorem fn_rt {k n : Nat} {f : SM} {ds : List PyData} {d : PyData} {ρ' : Rho} (hk : ds.length = k) (h : f (start0 n ds) = .rt d ρ') : fnRun k n f ds = .ok d := by
  unfold fnRun; rw [if_pos hk, h]
theorem seq_nx {f g : SM} {ρ ρ' : Rho} (h : f ρ = .nx ρ') : seqO f g ρ = g ρ' := by unfold seqO; rw [h]
theorem asg_set {a : M PyData} {i : Nat} {d : PyData} {ρ ρ' : Rho} (h : a ρ = .ok (d, ρ')) (hi : i < ρ'.length) : asgO a (setS i) ρ = .nx (ρ'.set i (.sh d)) := by
  unfold asgO exO; rw [h]
  show (match setS i d ρ' with | .ok ρ' => O.nx ρ' | .exc _ => .bad | .bad => .bad) = _
  unfold setS; rw [if_pos hi]
theorem ret_ok {a : M PyData} {d : PyData} {ρ ρ' : Rho} (h : a ρ = .ok (d, ρ')) : retO a ρ = .rt d ρ' := by unfold retO exO; rw [h]
theorem opA_ok {g : List PyData → Option PyData} {as : M (List PyData)} {ds : List PyData} {z : PyData} {ρ ρ' : Rho} (h : as ρ = .ok (ds, ρ')) (hg : g ds = some z) : opA g as ρ = .ok (z, ρ') := by
  unfold opA M.bind; rw [h]; show M.opt (g ds) ρ' = _; rw [hg]; rfl
theorem aC1 {a : M PyData} {d : PyData} {ρ ρ' : Rho} (h : a ρ = .ok (d, ρ')) : aC a aN ρ = .ok ([d], ρ') := by unfold aC M.bind; rw [h]; rfl
theorem op2_ok {g : PyData → PyData → Option PyData} {a b : M PyData} {x y z : PyData} {ρ ρ1 ρ2 : Rho} (ha : a ρ = .ok (x, ρ1)) (hb : b ρ1 = .ok (y, ρ2)) (hg : g x y = some z) : op2 g a b ρ = .ok (z, ρ2) := by
  simp [ha, hb, hg]
theorem tst_ok {a : M PyData} {b : Bool} {ρ ρ' : Rho} (h : a ρ = .ok (.bool b, ρ')) : tst a ρ = .ok (b, ρ') := by simp [h]
theorem vN_ok {i : Nat} {d : PyData} {ρ : Rho} (h : ρ[i]? = some (.sh d)) : vN i ρ = .ok (d, ρ) := by simp [h]
theorem cD_ok {d : PyData} {ρ : Rho} : cD d ρ = .ok (d, ρ) := rfl
theorem aC_ok {a : M PyData} {as : M (List PyData)} {d : PyData} {ds : List PyData} {ρ ρ1 ρ2 : Rho} (h : a ρ = .ok (d, ρ1)) (hs : as ρ1 = .ok (ds, ρ2)) : aC a as ρ = .ok (d :: ds, ρ2) := by simp [h, hs]
theorem aN_ok {ρ : Rho} : aN ρ = .ok ([], ρ) := rfl
theorem callM_ok {m : List PyData → R PyData} {as : M (List PyData)} {ds : List PyData} {z : PyData} {ρ ρ' : Rho} (h : as ρ = .ok (ds, ρ')) (hm : m ds = .ok z) : callM m as ρ = .ok (z, ρ') := by simp [h, hm]
theorem ifO_ok {t : M Bool} {f g : SM} {b : Bool} {ρ ρ' : Rho} (h : t ρ = .ok (b, ρ')) : ifO t f g ρ = if b = true then f ρ' else g ρ' := by
  simp [h]; cases b <;> rfl
theorem ifO_f {t : M Bool} {f g : SM} {ρ ρ' : Rho} (h : t ρ = .ok (false, ρ')) : ifO t f g ρ = g ρ' := by simp [h]
theorem drop_nx {a : M PyData} {d : PyData} {ρ ρ' : Rho} (h : a ρ = .ok (d, ρ')) : dropO a ρ = .nx ρ' := by simp [h]
theorem for_ok {as : M (List PyData)} {g : GM} {f : SM} {ds : List PyData} {ρ ρ' : Rho} (h : as ρ = .ok (ds, ρ')) : forO as g f ρ = loopO g f ds ρ' := by simp [h]
theorem opI_ok {g : List PyData → Option (List PyData)} {as : M (List PyData)} {ds zs : List PyData} {ρ ρ' : Rho} (h : as ρ = .ok (ds, ρ')) (hg : g ds = some zs) : opI g as ρ = .ok (zs, ρ') := by simp [h, hg]
theorem seqI_l {a : M PyData} {ds : List PyData} {ρ ρ' : Rho} (h : a ρ = .ok (.list ds, ρ')) : seqI a ρ = .ok (ds, ρ') := by simp [h]
theorem seqI_t {a : M PyData} {ds : List PyData} {ρ ρ' : Rho} (h : a ρ = .ok (.tuple ds, ρ')) : seqI a ρ = .ok (ds, ρ') := by simp [h]
theorem asg_gm {a : M PyData} {g : GM} {d : PyData} {ρ ρ' ρ'' : Rho} (h : a ρ = .ok (d, ρ')) (hg : g d ρ' = .ok ρ'') : asgO a g ρ = .nx ρ'' := by simp [h, hg]
theorem fn_rt' {k n : Nat} {f : SM} {ds : List PyData} {d : PyData} {ρ0 ρ' : Rho} (hk : ds.length = k) (h0 : start0 n ds = ρ0) (h : f ρ0 = .rt d ρ') : fnRun k n f ds = .ok d := by
  subst h0; exact fn_rt hk h
theorem brw_ok {b : Bool} {a : M PyData} {d : PyData} {ρ ρ1 ρ2 ρ3 : Rho} (hd : demR b ρ = ρ1) (ha : a ρ1 = .ok (d, ρ2)) (hi : imm d = true) (hb : backR b ρ ρ2 = some ρ3) : brw b a ρ = .ok (d, ρ3) := by
  subst hd; simp [ha, hi, hb]
theorem brwT_ok {b : Bool} {a : M Bool} {d : Bool} {ρ ρ1 ρ2 ρ3 : Rho} (hd : demR b ρ = ρ1) (ha : a ρ1 = .ok (d, ρ2)) (hb : backR b ρ ρ2 = some ρ3) : brwT b a ρ = .ok (d, ρ3) := by
  subst hd; simp [ha, hb]
end G
set_option Elab.async false
set_option linter.all false
set_option maxRecDepth 100000
set_option maxHeartbeats 1000000
namespace G
open PySem DL
local instance : DL.TabCtx := ⟨[]⟩
theorem gAdd_l {a b : List PyData} (h : a.length + b.length ≤ 1000000) : gAdd (.list a) (.list b) = some (.list (a ++ b)) := if_pos h
end G
set_option Elab.async false
set_option linter.all false
set_option maxRecDepth 100000
set_option maxHeartbeats 1000000
namespace G
open PySem DL
local instance : DL.TabCtx := ⟨[]⟩
section
variable {many : Int} {m : Nat} {ss : List Sg} {st : List (List Nat)}
theorem need_both_ok (hm : many = m) (h : Good many ss) (hst : GSt m ss.length st) : m_need_both [chD many ss, stD st] = .ok .none := by
  simp [m_need_both, b_need_both, fnRun, start0, need_choir_ok h, need_standing_ok hm h.l4 hst]
theorem nOf_lt {x : Str} (hx : x ∈ ss.map (·.name)) : nOf ss x < ss.length := by
  rw [← List.length_map (f := (·.name)) (as := ss)]; exact List.idxOf_lt_length_of_mem hx
theorem all_nextR (hm : many = m) (h : Good many ss) (hst : GSt m ss.length st) : m_all_next [chD many ss, stD st] = .ok (rowD (nxN m ss st)) := by
  rw [all_next_ok hm h hst, nxN_d hm h hst]
end
end G
set_option Elab.async false
set_option linter.all false
set_option maxRecDepth 100000
set_option maxHeartbeats 1000000
namespace G
open PySem DL
local instance : DL.TabCtx := ⟨[]⟩
theorem nat_at {xs : List Nat} {i : Nat} (h : i < xs.length) : (xs.map natD)[i]? = some (natD (xs.getD i 0)) := by
  rw [List.getElem?_map, List.getD_eq_getElem?_getD, List.getElem?_eq_getElem h]; rfl
end G
set_option Elab.async false
set_option linter.all false
set_option maxRecDepth 100000
set_option maxHeartbeats 1000000
namespace G
open PySem DL
local instance : DL.TabCtx := ⟨[]⟩
theorem gNe_nat (a b : Nat) : gNe (natD a) (natD b) = some (.bool (!decide (a = b))) := gNe_P (j := 0) (k := 0) (.int _) (.int _) _ natD_inj
theorem while_t {t : M Bool} {fb : SM} {k : Nat} {ρ ρ1 ρ2 : Rho} (h : t ρ = .ok (true, ρ1)) (hb : fb ρ1 = .nx ρ2) : whileN t fb (k + 1) ρ = whileN t fb k ρ2 := by
  rw [whileN, h]
  simp only [hb]
theorem while_f {t : M Bool} {fb : SM} {k : Nat} {ρ ρ1 : Rho} (h : t ρ = .ok (false, ρ1)) : whileN t fb (k + 1) ρ = .nx ρ1 := by
  rw [whileN, h]
end G
set_option Elab.async false
set_option linter.all false
set_option maxRecDepth 100000
set_option maxHeartbeats 1000000
namespace G
open PySem DL
local instance : DL.TabCtx := ⟨[]⟩
theorem notT_ok {t : M Bool} {b : Bool} {ρ ρ' : Rho} (h : t ρ = .ok (b, ρ')) : notT t ρ = .ok (!b, ρ') := by simp [h]
theorem orT_f {t u : M Bool} {b : Bool} {ρ ρ1 ρ2 : Rho} (h : t ρ = .ok (false, ρ1)) (h2 : u ρ1 = .ok (b, ρ2)) : orT t u ρ = .ok (b, ρ2) := by simp [h, h2]
theorem orT_t {t u : M Bool} {ρ ρ1 : Rho} (h : t ρ = .ok (true, ρ1)) : orT t u ρ = .ok (true, ρ1) := by simp [h]
theorem andT_t {t u : M Bool} {b : Bool} {ρ ρ1 ρ2 : Rho} (h : t ρ = .ok (true, ρ1)) (h2 : u ρ1 = .ok (b, ρ2)) : andT t u ρ = .ok (b, ρ2) := by simp [h, h2]
theorem andT_f {t u : M Bool} {ρ ρ1 : Rho} (h : t ρ = .ok (false, ρ1)) : andT t u ρ = .ok (false, ρ1) := by simp [h]
theorem fn_nx' {k n : Nat} {f : SM} {ds : List PyData} {ρ0 ρ' : Rho} (hk : ds.length = k) (h0 : start0 n ds = ρ0) (h : f ρ0 = .nx ρ') : fnRun k n f ds = .ok .none := by
  subst h0; unfold fnRun; rw [if_pos hk, h]
end G
set_option Elab.async false
set_option linter.all false
set_option maxRecDepth 100000
set_option maxHeartbeats 1000000
namespace G
open PySem DL
local instance : DL.TabCtx := ⟨[]⟩
end G
set_option Elab.async false
set_option linter.all false
set_option maxRecDepth 100000
set_option maxHeartbeats 1000000
namespace G
open PySem DL
local instance : DL.TabCtx := ⟨[]⟩
end G
set_option Elab.async false
set_option linter.all false
set_option maxRecDepth 100000
set_option maxHeartbeats 1000000
namespace G
open PySem DL
local instance : DL.TabCtx := ⟨[]⟩
theorem ex_ok {a : M PyData} {f : PyData → SM} {d : PyData} {ρ ρ' : Rho} (h : a ρ = .ok (d, ρ')) : exO a f ρ = f d ρ' := by unfold exO; rw [h]
theorem ifN_f {t : M Bool} {f : SM} {ρ ρ' : Rho} (h : t ρ = .ok (false, ρ')) : ifO t f nxO ρ = .nx ρ' := (ifO_f h).trans rfl
end G
set_option Elab.async false
set_option linter.all false
set_option maxRecDepth 100000
set_option maxHeartbeats 1000000
namespace G
open PySem DL
local instance : DL.TabCtx := ⟨[]⟩
end G
set_option Elab.async false
set_option linter.all false
set_option maxRecDepth 100000
set_option maxHeartbeats 1000000
namespace G
open PySem DL
local instance : DL.TabCtx := ⟨[]⟩
theorem ifV_t {t : M Bool} {a b : M PyData} {ρ ρ' : Rho} (h : t ρ = .ok (true, ρ')) : ifV t a b ρ = a ρ' := by rw [e_ifV, e_bind, h]; rfl
theorem ifV_f {t : M Bool} {a b : M PyData} {ρ ρ' : Rho} (h : t ρ = .ok (false, ρ')) : ifV t a b ρ = b ρ' := by rw [e_ifV, e_bind, h]; rfl
theorem app_ok {i : Nat} {a : M PyData} {d : PyData} {ds : List PyData} {ρ ρ' : Rho} (h0 : ρ[i]? = some (.ow (.list ds))) (ha : a ρ = .ok (d, ρ')) (h1 : ρ'[i]? = some (.ow (.list ds))) (hl : ds.length < LIM) : appO i a ρ = .nx (ρ'.set i (.ow (.list (ds ++ [d])))) := by
  unfold appO
  rw [h0]
  simp only []
  rw [ex_ok ha]
  simp only [h1]
  exact if_pos hl
end G
set_option Elab.async false
set_option linter.all false
set_option maxRecDepth 100000
set_option maxHeartbeats 1000000
namespace G
open PySem DL
local instance : DL.TabCtx := ⟨[]⟩
end G
set_option Elab.async false
set_option linter.all false
set_option maxRecDepth 100000
set_option maxHeartbeats 1000000
namespace G
open PySem DL
local instance : DL.TabCtx := ⟨[]⟩
end G
set_option Elab.async false
set_option linter.all false
set_option maxRecDepth 100000
set_option maxHeartbeats 1000000
namespace G
open PySem DL
local instance : DL.TabCtx := ⟨[]⟩
theorem callL_ok {i : Nat} {m : PyData → List PyData → R (PyData × PyData)} {as : M (List PyData)} {ds : List PyData} {d dd dd' : PyData} {ρ : Rho} (h : ρ[i]? = some (.ow dd)) (ha : as ρ = .ok (ds, ρ)) (hm : m dd ds = .ok (d, dd')) : callL i m as ρ = .ok (d, ρ.set i (.ow dd')) := by
  simp [h, ha, hm]
end G
set_option Elab.async false
set_option linter.all false
set_option maxRecDepth 100000
set_option maxHeartbeats 1000000
namespace G
open PySem DL
local instance : DL.TabCtx := ⟨[]⟩
theorem xOw_ok {a : M PyData} {r : M (List Sl)} {d : PyData} {ss : List Sl} {ρ ρ1 ρ2 : Rho} (ha : a ρ = .ok (d, ρ1)) (hr : r ρ1 = .ok (ss, ρ2)) : xOw a r ρ = .ok (.ow d :: ss, ρ2) := by
  rw [e_xOw]; unfold M.bind; rw [ha]; simp only [hr]; rfl
theorem xN_ok {ρ : Rho} : xN ρ = .ok ([], ρ) := rfl
theorem par_ok {is : List Nat} {f : M (List Sl)} {ss : List Sl} {ρ ρ1 : Rho} (h : f ρ = .ok (ss, ρ1)) (hl : ss.length = is.length) : parO is f ρ = .nx (setL is ss ρ1) := by
  rw [e_parO]; unfold exO; rw [h]; exact if_pos hl
theorem ownF_ok {i : Nat} {a : M PyData} {d : PyData} {ρ ρ1 : Rho} (h : a ρ = .ok (d, ρ1)) : ownFO i a ρ = .nx (ρ1.set i (.ow d)) := by rw [e_ownFO, ex_ok h]
theorem par2_ok {i j : Nat} {a : M (List PyData)} {x y : PyData} {ρ ρ1 : Rho} (h : a ρ = .ok ([x, y], ρ1)) (hi : i < ρ1.length) (hj : j < ρ1.length) : par2 i j a ρ = .nx ((ρ1.set i (.sh x)).set j (.sh y)) := by
  unfold par2 exO; rw [h]; exact if_pos ⟨hi, hj⟩
section
variable {many : Int} {m : Nat} {ss : List Sg}
theorem roll_nat (s : Int × Int) {n : Nat} (h0 : 0 < n) (h1 : n < 1000000) : ∃ (r : Nat) (s' : Int × Int), m_law_roll (dcD s) [natD n] = .ok (natD r, dcD s') ∧ r < n := by
  obtain ⟨r, s', q1, q2, q3⟩ := roll_ex s (n : Int) (by omega) (by omega)
  refine ⟨r.toNat, s', ?_, by omega⟩
  have e : natD r.toNat = .int r := by unfold natD; rw [Int.toNat_of_nonneg q2]
  rw [e]; exact q1
end
end G
set_option Elab.async false
set_option linter.all false
set_option maxRecDepth 100000
set_option maxHeartbeats 1000000
namespace G
open PySem DL
local instance : DL.TabCtx := ⟨[]⟩
end G
set_option Elab.async false
set_option linter.all false
set_option maxRecDepth 100000
set_option maxHeartbeats 1000000
namespace G
open PySem DL
local instance : DL.TabCtx := ⟨[]⟩
theorem own_ok {i : Nat} {as : M (List PyData)} {ds : List PyData} {ρ ρ' : Rho} (h : as ρ = .ok (ds, ρ')) (hl : ds.length ≤ LIM) : ownO i as ρ = .nx (ρ'.set i (.ow (.list ds))) := by
  unfold ownO exO; rw [h]; exact if_pos hl
theorem isi_ok {T : Ty} {a : M PyData} {d : PyData} {ρ ρ' : Rho} (h : a ρ = .ok (d, ρ')) : isi T a ρ = .ok (.bool (isD T d), ρ') := by rw [e_isi, e_bind, h]; rfl
theorem isi_b {T : Ty} {a : M PyData} {d : PyData} {b : Bool} {ρ ρ' : Rho} (h : a ρ = .ok (d, ρ')) (hb : isD T d = b) : isi T a ρ = .ok (.bool b, ρ') := by rw [← hb]; exact isi_ok h
theorem andV_t {a b : M PyData} {d : PyData} {ρ ρ1 ρ2 : Rho} (h : a ρ = .ok (.bool true, ρ1)) (h2 : b ρ1 = .ok (d, ρ2)) : andV a b ρ = .ok (d, ρ2) := by simp [h, h2]
theorem ne_same {k : Nat} {d : PyData} (h : P k d) (hk : k ≤ 64 := by decide) : gNe d d = some (.bool false) := gNe_P h h True (by simp) hk hk
end G
set_option Elab.async false
set_option linter.all false
set_option maxRecDepth 100000
set_option maxHeartbeats 1000000
namespace G
open PySem DL
local instance : DL.TabCtx := ⟨[]⟩
end G
set_option Elab.async false
set_option linter.all false
set_option maxRecDepth 100000
set_option maxHeartbeats 1000000
namespace G
open PySem DL
local instance : DL.TabCtx := ⟨[]⟩
end G
set_option Elab.async false
set_option linter.all false
set_option maxRecDepth 100000
set_option maxHeartbeats 1000000
namespace G
open PySem DL
local instance : DL.TabCtx := ⟨[]⟩
abbrev Sh (d : PyData) : Prop := SeqAt.shaped d = true
theorem lay_mem : ∀ {xs : List PyData}, PyData.canLayAll0 xs = true → ∀ x ∈ xs, x.canLay0 = true
  | x :: xs, h, y, hy => by
    have h' : (PyData.canLay0 x && PyData.canLayAll0 xs) = true := h
    rw [Bool.and_eq_true] at h'
    rcases List.mem_cons.mp hy with rfl | hy
    · exact h'.1
    · exact lay_mem h'.2 y hy
theorem depth_mem : ∀ {xs : List PyData}, ∀ x ∈ xs, x.depth ≤ PyData.depthAll xs
  | x :: xs, y, hy => by
    simp only [PyData.depthAll]
    rcases List.mem_cons.mp hy with rfl | hy
    · omega
    · have := depth_mem y hy; omega
theorem Sh.mem {xs : List PyData} (h : Sh (.tuple xs)) : ∀ x ∈ xs, Sh x := fun x hx => by
  unfold Sh SeqAt.shaped at h ⊢
  rw [Bool.and_eq_true, decide_eq_true_iff, PyData.canLay0, PyData.depth] at h
  rw [Bool.and_eq_true, decide_eq_true_iff]
  exact ⟨lay_mem h.1 x hx, Nat.le_trans (depth_mem x hx) (by omega)⟩
def inR (many : Int) : PyData → Bool
  | .int i => decide (0 ≤ i) && decide (i ≤ many - 1)
  | _ => false
def inN (nm : List Str) : PyData → Bool
  | .str s => nm.any (· == s)
  | _ => false
def W (nm : List Str) (many : Int) : Nat → PyData → Bool
  | 0, _ => false
  | _ + 1, .tuple [.str s] => s == "one"
  | n + 1, .tuple [.str s, a] => s == "not" && W nm many n a
  | n + 1, .tuple [.str s, a, b] => if s = "sings" then inN nm a && inR many b else s == "both" && (W nm many n a && W nm many n b)
  | _ + 1, _ => false
end G
set_option Elab.async false
set_option linter.all false
set_option maxRecDepth 100000
set_option maxHeartbeats 1000000
namespace G
open PySem DL
local instance : DL.TabCtx := ⟨[]⟩
end G
set_option Elab.async false
set_option linter.all false
set_option maxRecDepth 100000
set_option maxHeartbeats 1000000
namespace G
open PySem DL
local instance : DL.TabCtx := ⟨[]⟩
section
variable {many : Int} {ss : List Sg} {n : Nat} {self_ : List PyData → R PyData}
def gd : PyData → Bool
  | .int _ => true
  | _ => false
end
end G
set_option Elab.async false
set_option linter.all false
set_option maxRecDepth 100000
set_option maxHeartbeats 1000000
namespace G
open PySem DL
local instance : DL.TabCtx := ⟨[]⟩
end G
set_option Elab.async false
set_option linter.all false
set_option maxRecDepth 100000
set_option maxHeartbeats 1000000
namespace G
open PySem DL
local instance : DL.TabCtx := ⟨[]⟩
end G
set_option Elab.async false
set_option linter.all false
set_option maxRecDepth 100000
set_option maxHeartbeats 1000000
namespace G
open PySem DL
local instance : DL.TabCtx := ⟨[]⟩
end G
set_option Elab.async false
set_option linter.all false
set_option maxRecDepth 100000
set_option maxHeartbeats 1000000
namespace G
open PySem DL
local instance : DL.TabCtx := ⟨[]⟩
end G
set_option Elab.async false
set_option linter.all false
set_option maxRecDepth 100000
set_option maxHeartbeats 1000000
namespace G
open PySem DL
local instance : DL.TabCtx := ⟨[]⟩
theorem dget2_ok {a b c : M PyData} {ps : List (PyData × PyData)} {k x : PyData} {ρ ρ1 ρ2 ρ3 : Rho} (ha : a ρ = .ok (.dict ps, ρ1)) (hb : b ρ1 = .ok (k, ρ2)) (hc : c ρ2 = .ok (x, ρ3)) (hk : keyOk ps k = true) : dget2 a b c ρ = .ok ((dlook ps k).getD x, ρ3) := by
  simp [ha, hb, hc, gGet2, hk]
theorem dset_ok {i : Nat} {b a : M PyData} {ps : List (PyData × PyData)} {dv dk : PyData} {ρ ρ1 ρ2 : Rho} (ha : a ρ = .ok (dv, ρ1)) (h1 : isOw ρ1[i]? = true) (hb : b ρ1 = .ok (dk, ρ2)) (h2 : ρ2[i]? = some (.ow (.dict ps))) (hk : keyOk ps dk = true) (hl : ps.length < 1000000) : dsetO i b a ρ = .nx (ρ2.set i (.ow (.dict (dput ps dk dv)))) := by
  rw [e_dsetO, e_exO, ha]
  simp only
  rw [if_pos h1, e_exO, hb]
  simp only [h2]
  rw [if_pos ⟨hk, by rw [e_LIM]; exact hl⟩]
theorem keyEq_str (a b : Str) : keyEqD (.str a) (.str b) = decide (a = b) := by
  unfold keyEqD
  rw [nkey, nkey]
  by_cases e : a = b
  · subst e; simp
  · rw [decide_eq_false e]; exact decide_eq_false fun z => e (by injection z with z; injection z)
theorem keyEq_spot (a b : Int) (x y : Str) : keyEqD (.tuple [.int a, .str x]) (.tuple [.int b, .str y]) = decide (a = b ∧ x = y) := by
  unfold keyEqD
  rw [nkey_spot, nkey_spot]
  by_cases e : a = b ∧ x = y
  · obtain ⟨rfl, rfl⟩ := e; simp
  · rw [decide_eq_false e]
    refine decide_eq_false fun z => e ?_
    injection z with z
    injection z with z
    injection z with z1 z2
    injection z1 with z1
    injection z2 with z2 _
    injection z2 with z2
    exact ⟨z1, z2⟩
def spotD (b : Nat) (x : Str) : PyData := .tuple [natD b, .str x]
def spotP (q : Nat × Str × Nat) : PyData × PyData := (spotD q.1 q.2.1, natD q.2.2)
def lookL (xs : List (Nat × Str × Nat)) (b : Nat) (x : Str) : Option Nat := (xs.find? fun q => decide (q.1 = b ∧ q.2.1 = x)).map (·.2.2)
theorem keyEq_spotD (a b : Nat) (x y : Str) : keyEqD (spotD a x) (spotD b y) = decide (a = b ∧ x = y) := by
  unfold spotD
  rw [show natD a = PyData.int ((a : Nat) : Int) from rfl, show natD b = PyData.int ((b : Nat) : Int) from rfl, keyEq_spot]
  exact decide_eq_decide.mpr ⟨fun ⟨h1, h2⟩ => ⟨by omega, h2⟩, fun ⟨h1, h2⟩ => ⟨by omega, h2⟩⟩
theorem keyOk_spots (xs : List (Nat × Str × Nat)) (b : Nat) (y : Str) : keyOk (xs.map spotP) (spotD b y) = true := by
  unfold keyOk
  refine Bool.or_eq_true_iff.mpr (.inr (Bool.and_eq_true_iff.mpr ⟨Bool.and_eq_true_iff.mpr ⟨rfl, deep_spot _ _⟩, ?_⟩))
  rw [List.all_eq_true]
  intro p hp
  obtain ⟨q, _, rfl⟩ := List.mem_map.mp hp
  rfl
theorem dlook_spots (xs : List (Nat × Str × Nat)) (b : Nat) (y : Str) : dlook (xs.map spotP) (spotD b y) = (lookL xs b y).map natD := by
  unfold dlook lookL
  induction xs with
  | nil => rfl
  | cons x xs ih =>
    have ek : keyEqD (spotP x).1 (spotD b y) = decide (x.1 = b ∧ x.2.1 = y) := keyEq_spotD _ _ _ _
    rw [List.map_cons]
    by_cases e : x.1 = b ∧ x.2.1 = y
    · rw [List.find?_cons_of_pos (by rw [ek, decide_eq_true e]), List.find?_cons_of_pos (by exact decide_eq_true e)]; rfl
    · rw [List.find?_cons_of_neg (by rw [ek, decide_eq_false e]; exact Bool.false_ne_true), List.find?_cons_of_neg (by rw [decide_eq_false e]; exact Bool.false_ne_true)]; exact ih
theorem lookL_lt {m : Nat} {xs : List (Nat × Str × Nat)} (h : ∀ q ∈ xs, q.2.2 < m) : ∀ b x l, lookL xs b x = some l → l < m := fun b x l e => by
  unfold lookL at e
  obtain ⟨q, h1, rfl⟩ := Option.map_eq_some_iff.mp e
  exact h q (List.mem_of_find?_eq_some h1)
def ldOf (L : List Str) (t : List Nat) (x : Str) : Option Nat := ((L.zip t).find? fun p => decide (p.1 = x)).map (·.2)
def ldC (L : List Str) (t : List Nat) : Nat → Str → Option Nat := fun _ => ldOf L t
theorem gLZip_map {α β : Type} (f : α → PyData) (g : β → PyData) (xs : List α) (ys : List β) (hl : xs.length ≤ 1000000) : gLZip [.list (xs.map f), .tuple (ys.map g)] = some (.list ((xs.zip ys).map fun p => .tuple [f p.1, g p.2])) := by
  show (if (xs.map f).length ≤ LIM then some (PyData.list (zipD (xs.map f) (ys.map g))) else none) = _
  rw [if_pos (by rw [List.length_map, e_LIM]; exact hl), zipD_map2]
section
variable {many : Int} {m : Nat} {ss : List Sg} {st : List (List Nat)}
theorem zip_self {α β γ : Type} (f : α → β) (g : α → γ) (xs : List α) : (xs.map f).zip (xs.map g) = xs.map fun x => (f x, g x) := by
  induction xs with
  | nil => rfl
  | cons x xs ih => rw [List.map_cons, List.map_cons, List.zip_cons_cons, ih]; rfl
theorem names_next (m : Nat) (ss : List Sg) (st : List (List Nat)) (hl : ss.length ≤ 1000000) : gLZip [.list (ss.map fun s => .str s.name), rowD (nxN m ss st)] = some (.list (ss.map fun s => .tuple [.str s.name, natD (sem m s (hrd ss st)).toNat])) := by
  have e : nxN m ss st = ss.map fun s => (sem m s (hrd ss st)).toNat := by unfold nxN nxt; rw [List.map_map]; rfl
  rw [e]
  have := gLZip_map (fun s : Sg => PyData.str s.name) natD ss (ss.map fun s => (sem m s (hrd ss st)).toNat) hl
  rw [show (PyData.tuple ((ss.map fun s => (sem m s (hrd ss st)).toNat).map natD)) = rowD (ss.map fun s => (sem m s (hrd ss st)).toNat) from rfl] at this
  rw [this]
  have z := zip_self (fun s : Sg => s) (fun s => (sem m s (hrd ss st)).toNat) ss
  rw [List.map_id'] at z
  rw [z, List.map_map]; rfl
def nx (m : Nat) (ss : List Sg) (L : List Str) (st : List (List Nat)) (t : List Nat) : List (List Nat) := beh st (lrow m ss (ldC L t) 0 st)
end
end G
set_option Elab.async false
set_option linter.all false
set_option maxRecDepth 100000
set_option maxHeartbeats 1000000
namespace G
open PySem DL
local instance : DL.TabCtx := ⟨[]⟩
section
variable {many : Int} {m : Nat} {ss : List Sg} {st : List (List Nat)} {L : List Str}
abbrev St := List (List Nat)
end
end G
set_option Elab.async false
set_option linter.all false
set_option maxRecDepth 100000
set_option maxHeartbeats 1000000
namespace G
open PySem DL
local instance : DL.TabCtx := ⟨[]⟩
def fresh : List St → List St → List St
  | _, [] => []
  | F, s :: R => if s ∈ F then fresh F R else s :: fresh (F ++ [s]) R
end G
set_option Elab.async false
set_option linter.all false
set_option maxRecDepth 100000
set_option maxHeartbeats 1000000
namespace G
open PySem DL
local instance : DL.TabCtx := ⟨[]⟩
def foldE {α σ β : Type} (f : α → σ → β ⊕ σ) : List α → σ → β ⊕ σ
  | [], c => .inr c
  | a :: xs, c => match f a c with
    | .inl q => .inl q
    | .inr c' => foldE f xs c'
abbrev Pth := List (List Nat)
section
variable (good : St → List Nat → Bool) (nxt : St → List Nat → St) (T : List (List Nat))
def scan1 (p : Pth) (s : St) (t : List Nat) (c : List St × List (Pth × St)) : Pth ⊕ (List St × List (Pth × St)) :=
  if good s t = true then .inl (p ++ [t]) else if nxt s t ∈ c.1 then .inr c else .inr (c.1 ++ [nxt s t], c.2 ++ [(p ++ [t], nxt s t)])
def lvl (H : List (Pth × St)) (c : List St × List (Pth × St)) : Pth ⊕ (List St × List (Pth × St)) := foldE (fun e c => foldE (scan1 good nxt e.1 e.2) T c) H c
variable (P : St → Prop) (st : St)
variable {good nxt T P st}
end
end G
set_option Elab.async false
set_option linter.all false
set_option maxRecDepth 100000
set_option maxHeartbeats 1000000
namespace G
open PySem DL
local instance : DL.TabCtx := ⟨[]⟩
end G
set_option Elab.async false
set_option linter.all false
set_option maxRecDepth 100000
set_option maxHeartbeats 1000000
namespace G
open PySem DL
local instance : DL.TabCtx := ⟨[]⟩
end G
set_option Elab.async false
set_option linter.all false
set_option maxRecDepth 100000
set_option maxHeartbeats 1000000
namespace G
open PySem DL
local instance : DL.TabCtx := ⟨[]⟩
theorem at_last (ds : List PyData) (d : PyData) : atD (ds ++ [d]) (-1) = some d := by
  unfold atD
  simp
  refine ⟨by omega, ?_⟩
  rw [show (-1 + ((ds.length : Int) + 1)).toNat = ds.length by omega]
  simp
theorem ixO_last {i : Nat} {ds : List PyData} {d : PyData} {ρ : Rho} (h : ρ[i]? = some (.ow (.list (ds ++ [d])))) : ixO i (op1 gNeg (cD (.int 1))) ρ = .ok (d, ρ) := by
  unfold ixO
  rw [if_pos (by rw [h]; rfl)]
  unfold ixI M.bind
  have : op1 gNeg (cD (.int 1)) ρ = .ok (.int (-1), ρ) := rfl
  rw [this]
  simp only [h, at_last]
section
variable {many : Int} {m : Nat} {ss tt : List Sg} {st : St} {xs : List (Nat × Str × Nat)}
theorem is_lead_ok (hm : many = m) (h : Good many ss) {b : Nat} {x : Str} {l : Nat} (hb : b ≤ 499) (hx : x ∈ ss.map (·.name)) (hl : l < m) : m_is_lead [chD many ss, spotD b x, natD l] = .ok (.bool true) := by
  have h4 := h.l4
  have k1 := all_names_ok (many := many) (ss := ss) (by rw [e_LIM]; omega)
  have i0 : gIx (chD many ss) (.int 0) = some (.int many) := rfl
  have w1 : m_is_whole [natD b, .int 0, .int 499] = .ok (.bool true) := by
    show m_is_whole [.int (b : Nat), .int 0, .int 499] = _
    rw [is_whole_int, decide_eq_true (by omega : (0 : Int) ≤ (b : Nat)), decide_eq_true (by omega : ((b : Nat) : Int) ≤ 499)]; rfl
  have w2 : m_is_whole [natD l, .int 0, .int (many - 1)] = .ok (.bool true) := by
    show m_is_whole [.int (l : Nat), .int 0, .int (many - 1)] = _
    rw [is_whole_int, decide_eq_true (by omega : (0 : Int) ≤ (l : Nat)), decide_eq_true (by omega : ((l : Nat) : Int) ≤ many - 1)]; rfl
  have sb : gSub (.int many) (.int 1) = some (.int (many - 1)) := rfl
  have wd : ∀ y ∈ ss.map (·.name), Wd y := fun y hy => by
    obtain ⟨s, hs, rfl⟩ := List.mem_map.mp hy; exact (h.sg s hs).word
  have gi : gIn (.str x) (.list (ss.map fun s => .str s.name)) = some (.bool true) := by
    have := gIn_P (j := 0) (k := 0) (x := .str x) (.str (wd x hx).2) (ds := ss.map fun s => .str s.name) (fun y hy => by
      obtain ⟨s, hs, rfl⟩ := List.mem_map.mp hy; exact .str (h.sg s hs).word.2) True (iff_true_intro (by
      obtain ⟨s, hs, rfl⟩ := List.mem_map.mp hx
      exact List.mem_map.mpr ⟨s, hs, rfl⟩))
    rw [this]; rfl
  have j0 : gIx (spotD b x) (.int 0) = some (natD b) := rfl
  have j1 : gIx (spotD b x) (.int 1) = some (.str x) := rfl
  have ln : gLen [spotD b x] = some (.int 2) := rfl
  have s5 : gSub (.int 500) (.int 1) = some (.int 499) := rfl
  have isT : isD .tuple (spotD b x) = true := rfl
  generalize spotD b x = K at *
  generalize chD many ss = C at *
  refine fn_rt' (ρ0 := [.sh C, .sh K, .sh (natD l)]) rfl rfl (ρ' := [.sh C, .sh K, .sh (natD l)]) ?_
  rw [b_is_lead, seq_nx (ifN_f (orT_f (notT_ok (b := true) (tst_ok (isi_b (vN_ok rfl) isT))) (orT_f (tst_ok (op2_ok (opA_ok (aC1 (vN_ok rfl)) ln) cD_ok rfl)) (notT_ok (b := true) (tst_ok (callM_ok (aC_ok (op2_ok (vN_ok rfl) cD_ok j0) (aC_ok cD_ok (aC1 (op2_ok cD_ok cD_ok s5)))) w1))))))]
  exact ret_ok (andV_t (isi_b (op2_ok (vN_ok rfl) cD_ok j1) rfl) (andV_t (op2_ok (op2_ok (vN_ok rfl) cD_ok j1) (callM_ok (aC1 (vN_ok rfl)) k1) gi) (callM_ok (aC_ok (vN_ok rfl) (aC_ok cD_ok (aC1 (op2_ok (op2_ok (vN_ok rfl) cD_ok i0) cD_ok sb)))) w2)))
structure GLd (m : Nat) (names : List Str) (xs : List (Nat × Str × Nat)) : Prop where
  lt : ∀ q ∈ xs, q.2.2 < m
  nm : ∀ q ∈ xs, q.2.1 ∈ names
  bt : ∀ q ∈ xs, q.1 ≤ 499
  len : xs.length ≤ 100000
theorem look_some {q : Nat × Str × Nat} (hq : q ∈ xs) : ∃ q' ∈ xs, lookL xs q.1 q.2.1 = some q'.2.2 := by
  unfold lookL
  cases e : xs.find? fun q' => decide (q'.1 = q.1 ∧ q'.2.1 = q.2.1) with
  | none =>
    have := List.find?_eq_none.mp e q hq
    simp at this
  | some q' => exact ⟨q', List.mem_of_find?_eq_some e, rfl⟩
theorem need_leads_ok (hm : many = m) (h : Good many ss) (hx : GLd m (ss.map (·.name)) xs) : m_need_leads [chD many ss, .dict (xs.map spotP)] = .ok .none := by
  have k1 : ∀ q ∈ xs, ∃ q' ∈ xs, gIxX (.dict (xs.map spotP)) (spotD q.1 q.2.1) = some (natD q'.2.2) := fun q hq => by
    obtain ⟨q', h1, h2⟩ := look_some hq
    refine ⟨q', h1, ?_⟩
    show (if keyOk (xs.map spotP) (spotD q.1 q.2.1) = true then dlook (xs.map spotP) (spotD q.1 q.2.1) else none) = _
    rw [if_pos (keyOk_spots xs _ _), dlook_spots, h2]; rfl
  have k2 : ∀ q ∈ xs, ∀ l, l < m → m_is_lead [chD many ss, spotD q.1 q.2.1, natD l] = .ok (.bool true) := fun q hq l hl => is_lead_ok hm h (hx.bt q hq) (hx.nm q hq) hl
  have ky : keysOf (.dict (xs.map spotP)) = some (xs.map fun q => spotD q.1 q.2.1) := by
    unfold keysOf
    simp only [List.map_map]
    have : (xs.map spotP).all (fun p => isTupD p.1) = true := by rw [List.all_map, List.all_eq_true]; exact fun _ _ => rfl
    simp [this, Function.comp_def, spotP]
  generalize chD many ss = C at *
  have lc : lcM [2] (dictI (vN 1)) (setS 2) yesT (callM m_is_lead (aC (vN 0) (aC (vN 2) (aC (op2 gIxX (vN 1) (vN 2)) aN)))) [.sh C, .sh (.dict (xs.map spotP)), .no] = .ok (.list (xs.map fun _ => .bool true), [.sh C, .sh (.dict (xs.map spotP)), .no]) :=
    lc_map xs (fun q => spotD q.1 q.2.1) (fun _ => .bool true) (by unfold dictI M.bind; rw [show vN 1 [.sh C, .sh (.dict (xs.map spotP)), .no] = .ok (.dict (xs.map spotP), [.sh C, .sh (.dict (xs.map spotP)), .no]) from rfl]; simp only; rw [ky]; rfl) rfl (by rw [e_LIM]; have := hx.len; omega) fun q hq => by
      obtain ⟨q', h1, h2⟩ := k1 q hq
      exact ⟨[.sh C, .sh (.dict (xs.map spotP)), .sh (spotD q.1 q.2.1)], rfl, callM_ok (aC_ok (vN_ok rfl) (aC_ok (vN_ok rfl) (aC1 (op2_ok (vN_ok rfl) (vN_ok rfl) h2)))) (k2 q hq _ (hx.lt q' h1)), rfl⟩
  have al : gAll [.list (xs.map fun _ => .bool true)] = some (.bool true) := by
    rw [all_map (fun _ => true) xs, List.all_eq_true.mpr fun _ _ => rfl]
  refine fn_nx' (ρ0 := [.sh C, .sh (.dict (xs.map spotP)), .no]) rfl rfl (ρ' := [.sh C, .sh (.dict (xs.map spotP)), .no]) ?_
  rw [b_need_leads]
  exact ifN_f (orT_f (notT_ok (b := true) (tst_ok (isi_b (vN_ok rfl) rfl))) (notT_ok (b := true) (tst_ok (opA_ok (aC1 lc) al))))
theorem led_lines_ok (hm : many = m) (h : Good many ss) (hst : GSt m ss.length st) (b : Nat) : m_led_lines [chD many ss, stD st, .dict (xs.map spotP), natD b] = .ok (rowD (lrow m ss (lookL xs) b st)) := by
  have h4 := h.l4
  have k1 := all_names_ok (many := many) (ss := ss) (by rw [e_LIM]; omega)
  have k2 := all_nextR hm h hst
  have z2 := names_next m ss st (by omega)
  have et : gTuple [.list (ss.map fun s => natD ((lookL xs b s.name).getD (sem m s (hrd ss st)).toNat))] = some (rowD (lrow m ss (lookL xs) b st)) := by
    rw [e_tuple_l]; unfold lrow; show _ = some (PyData.tuple (List.map natD (List.map _ ss))); rw [List.map_map]; rfl
  generalize chD many ss = C at *
  generalize stD st = D at *
  have lc : lcM [5, 6] (seqI (vN 4)) (unT (gsC (setS 5) (gsC (setS 6) gsN))) yesT (dget2 (vN 2) (opA gTupD (aC (vN 3) (aC (vN 5) aN))) (vN 6)) [.sh C, .sh D, .sh (.dict (xs.map spotP)), .sh (natD b), .sh (.list (ss.map fun s => .tuple [.str s.name, natD (sem m s (hrd ss st)).toNat])), .no, .no] = .ok (.list (ss.map fun s => natD ((lookL xs b s.name).getD (sem m s (hrd ss st)).toNat)), [.sh C, .sh D, .sh (.dict (xs.map spotP)), .sh (natD b), .sh (.list (ss.map fun s => .tuple [.str s.name, natD (sem m s (hrd ss st)).toNat])), .no, .no]) := by
    refine lc_map ss (fun s => .tuple [.str s.name, natD (sem m s (hrd ss st)).toNat]) (fun s => natD ((lookL xs b s.name).getD (sem m s (hrd ss st)).toNat)) (seqI_l (vN_ok rfl)) rfl (by rw [e_LIM]; omega) fun s hs => ⟨[.sh C, .sh D, .sh (.dict (xs.map spotP)), .sh (natD b), .sh (.list (ss.map fun s => .tuple [.str s.name, natD (sem m s (hrd ss st)).toNat])), .sh (.str s.name), .sh (natD (sem m s (hrd ss st)).toNat)], rfl, ?_, rfl⟩
    have := dget2_ok (a := vN 2) (b := opA gTupD (aC (vN 3) (aC (vN 5) aN))) (c := vN 6) (ps := xs.map spotP) (k := spotD b s.name) (ρ := [.sh C, .sh D, .sh (.dict (xs.map spotP)), .sh (natD b), .sh (.list (ss.map fun s => .tuple [.str s.name, natD (sem m s (hrd ss st)).toNat])), .sh (.str s.name), .sh (natD (sem m s (hrd ss st)).toNat)]) (vN_ok rfl) (opA_ok (aC_ok (vN_ok rfl) (aC1 (vN_ok rfl))) rfl) (vN_ok rfl) (keyOk_spots xs b s.name)
    rw [this, dlook_spots]
    cases lookL xs b s.name <;> rfl
  refine fn_rt' (ρ0 := [.sh C, .sh D, .sh (.dict (xs.map spotP)), .sh (natD b), .no, .no, .no]) rfl rfl (ρ' := [.sh C, .sh D, .sh (.dict (xs.map spotP)), .sh (natD b), .sh (.list (ss.map fun s => .tuple [.str s.name, natD (sem m s (hrd ss st)).toNat])), .no, .no]) ?_
  rw [b_led_lines, seq_nx (asg_set (opA_ok (aC_ok (callM_ok (aC1 (vN_ok rfl)) k1) (aC1 (callM_ok (aC_ok (vN_ok rfl) (aC1 (vN_ok rfl))) k2))) z2) (by simp))]
  simp only [List.set_cons_zero, List.set_cons_succ]
  exact ret_ok (opA_ok (aC1 lc) et)
theorem rowsL_succ {ld : Nat → Str → Option Nat} (st : St) (n : Nat) : rowsL m ss ld st (n + 1) = rowsL m ss ld st n ++ [lrow m ss ld n (stL m ss ld st n)] := by
  unfold rowsL; rw [List.range_succ, List.map_append]; rfl
theorem led_rows_ok (hm : many = m) (h : Good many ss) (hst : GSt m ss.length st) (hx : ∀ q ∈ xs, q.2.2 < m) {N : Nat} (hN : N ≤ 1000) : m_led_rows [chD many ss, stD st, .dict (xs.map spotP), natD N] = .ok (.tuple [.list ((rowsL m ss (lookL xs) st N).map rowD), .list ((List.range N).map fun b => stD (stL m ss (lookL xs) st b))]) := by
  have kl : ∀ (b : Nat) (s : St), GSt m ss.length s → m_led_lines [chD many ss, stD s, .dict (xs.map spotP), natD b] = .ok (rowD (lrow m ss (lookL xs) b s)) := fun b s hs => led_lines_ok hm h hs b
  have gs := stL_good hm h hst (lookL_lt hx)
  have h4 := h.l4
  have kb : ∀ b, m_behind [stD (stL m ss (lookL xs) st b), rowD (lrow m ss (lookL xs) b (stL m ss (lookL xs) st b))] = .ok (stD (stL m ss (lookL xs) st (b + 1))) := fun b => behind_ok (by have := (gs b).len; omega) (fun r hr => by have := (gs b).row r hr; omega)
  generalize chD many ss = C at *
  obtain ⟨ρ', h1, x6, rfl⟩ := loop_inv (g := setS 6) (fb := b_led_rows_L1) (ds := rangeD 0 N) (fun i ρ => ∃ x6 : Sl, ρ = [.sh C, .sh (stD (stL m ss (lookL xs) st i)), .sh (.dict (xs.map spotP)), .sh (natD N), .ow (.list ((rowsL m ss (lookL xs) st i).map rowD)), .ow (.list ((List.range i).map fun b => stD (stL m ss (lookL xs) st b))), x6]) (fun i d ρ hd hI => by
    obtain ⟨x6, rfl⟩ := hI
    have hi : i < N := by have := (List.getElem?_eq_some_iff.mp hd).1; simpa [rangeD] using this
    have ed : d = natD i := by
      rw [rangeD_map, List.getElem?_map, List.getElem?_range hi] at hd
      exact (Option.some.inj hd).symm
    subst ed
    have ll : (rowsL m ss (lookL xs) st i).length = i := by unfold rowsL; rw [List.length_map, List.length_range]
    refine ⟨[.sh C, .sh (stD (stL m ss (lookL xs) st i)), .sh (.dict (xs.map spotP)), .sh (natD N), .ow (.list ((rowsL m ss (lookL xs) st i).map rowD)), .ow (.list ((List.range i).map fun b => stD (stL m ss (lookL xs) st b))), .sh (natD i)], _, rfl, ?_, .sh (natD i), rfl⟩
    rw [b_led_rows_L1, seq_nx (app_ok rfl (vN_ok rfl) rfl (by rw [e_LIM, List.length_map, List.length_range]; omega))]
    simp only [List.set_cons_zero, List.set_cons_succ]
    rw [seq_nx (app_ok rfl (callM_ok (aC_ok (vN_ok rfl) (aC_ok (vN_ok rfl) (aC_ok (vN_ok rfl) (aC1 (vN_ok rfl))))) (kl i _ (gs i))) rfl (by rw [e_LIM, List.length_map, ll]; omega))]
    simp only [List.set_cons_zero, List.set_cons_succ]
    rw [asg_set (callM_ok (aC_ok (vN_ok rfl) (aC1 (ixO_last rfl))) (kb i)) (by simp)]
    simp only [List.set_cons_zero, List.set_cons_succ]
    rw [rowsL_succ, List.map_append, List.range_succ, List.map_append]; rfl) (ρ := [.sh C, .sh (stD st), .sh (.dict (xs.map spotP)), .sh (natD N), .ow (.list []), .ow (.list []), .no]) ⟨.no, rfl⟩
  have hl : (rangeD 0 N).length = N := by simp [rangeD]
  rw [hl] at h1
  have hrg : rg1 [natD N] = some (rangeD 0 N) := by
    have := rg1_int (r := ((N : Nat) : Int)) (by omega) (by omega : ((N : Nat) : Int) ≤ 1000000)
    rw [Int.toNat_natCast] at this; exact this
  generalize stD st = D at *
  refine fn_rt' (ρ0 := [.sh C, .sh D, .sh (.dict (xs.map spotP)), .sh (natD N), .no, .no, .no]) rfl rfl (ρ' := demR false [.sh C, .sh (stD (stL m ss (lookL xs) st N)), .sh (.dict (xs.map spotP)), .sh (natD N), .ow (.list ((rowsL m ss (lookL xs) st N).map rowD)), .ow (.list ((List.range N).map fun b => stD (stL m ss (lookL xs) st b))), x6]) ?_
  rw [b_led_rows, seq_nx (par_ok (xOw_ok (opA_ok aN_ok rfl) (xOw_ok (opA_ok aN_ok rfl) xN_ok)) rfl)]
  simp only [setL]
  simp only [List.set_cons_zero, List.set_cons_succ]
  rw [seq_nx ((for_ok (opI_ok (aC1 (vN_ok rfl)) hrg)).trans h1), e_demO]
  exact ret_ok (opA_ok (aC_ok (vN_ok rfl) (aC1 (vN_ok rfl))) rfl)
theorem need_beats_ok {N : Nat} (hN : N ≤ 500) : m_need_beats [natD N] = .ok .none := by
  show m_need_beats [.int (N : Nat)] = _
  have h0 : (0 : Int) ≤ (N : Nat) := by omega
  have h1 : ((N : Nat) : Int) ≤ 500 := by omega
  generalize ((N : Nat) : Int) = z at *
  simp [m_need_beats, b_need_beats, fnRun, start0, is_whole_int, h0, h1]
end
end G
set_option Elab.async false
set_option linter.all false
set_option maxRecDepth 100000
set_option maxHeartbeats 1000000
namespace G
open PySem DL
local instance : DL.TabCtx := ⟨[]⟩
end G
set_option Elab.async false
set_option linter.all false
set_option maxRecDepth 100000
set_option maxHeartbeats 1000000
namespace G
open PySem DL
local instance : DL.TabCtx := ⟨[]⟩
open PySem.W (keyToks keyToksAll alike alikeAll dataLe)
end G
set_option Elab.async false
set_option linter.all false
set_option maxRecDepth 100000
set_option maxHeartbeats 1000000
namespace G
open PySem DL
local instance : DL.TabCtx := ⟨[]⟩
section
variable (good : St → List Nat → Bool) (nxt : St → List Nat → St) (T : List (List Nat))
abbrev KX := List St × List (Pth × St)
variable {good nxt T}
end
end G
set_option Elab.async false
set_option linter.all false
set_option maxRecDepth 100000
set_option maxHeartbeats 1000000
namespace G
open PySem DL
local instance : DL.TabCtx := ⟨[]⟩
end G
set_option Elab.async false
set_option linter.all false
set_option maxRecDepth 100000
set_option maxHeartbeats 1000000
namespace G
open PySem DL
local instance : DL.TabCtx := ⟨[]⟩
section
variable {good : St → List Nat → Bool} {nxt : St → List Nat → St} {T : List (List Nat)} {P : St → Prop} {st : St} {fl : List Nat → List Nat}
structure DI (nxt : St → List Nat → St) (T : List (List Nat)) (P : St → Prop) (st : St) (fl : List Nat → List Nat) (d : Nat) (H : List (Pth × St)) (K : List St) : Prop where
  hd : ∀ e ∈ H, e.1.length ≤ d
  sc : ∀ w ∈ K, w = st ∨ ∃ s, P s ∧ ∃ t ∈ T, w = nxt s t ∧ ∀ u ∈ T, nxt s u ∈ K
  ln : 2 * d + 1 ≤ K.length ∨ (2 * d ≤ K.length ∧ ∃ s, P s ∧ ∃ t ∈ T, nxt s t ∈ K ∧ nxt s (fl t) = st)
end
end G
set_option Elab.async false
set_option linter.all false
set_option maxRecDepth 100000
set_option maxHeartbeats 1000000
namespace G
open PySem DL
local instance : DL.TabCtx := ⟨[]⟩
end G
set_option Elab.async false
set_option linter.all false
set_option maxRecDepth 100000
set_option maxHeartbeats 1000000
namespace G
open PySem DL
local instance : DL.TabCtx := ⟨[]⟩
end G
set_option Elab.async false
set_option linter.all false
set_option maxRecDepth 100000
set_option maxHeartbeats 1000000
namespace G
open PySem DL
local instance : DL.TabCtx := ⟨[]⟩
end G
set_option Elab.async false
set_option linter.all false
set_option maxRecDepth 100000
set_option maxHeartbeats 1000000
namespace G
open PySem DL
local instance : DL.TabCtx := ⟨[]⟩
open PySem.W (alike alikeAll)
end G
set_option Elab.async false
set_option linter.all false
set_option maxRecDepth 100000
set_option maxHeartbeats 1000000
namespace G
open PySem DL
local instance : DL.TabCtx := ⟨[]⟩
/-- a truth comes of it, the slots as they are -/
def TB (f : M PyData) (ρ : Rho) : Prop := ∃ b, f ρ = .ok (.bool b, ρ)
end G
set_option Elab.async false
set_option linter.all false
set_option maxRecDepth 100000
set_option maxHeartbeats 1000000
namespace G
open PySem DL
local instance : DL.TabCtx := ⟨[]⟩
end G
set_option Elab.async false
set_option linter.all false
set_option maxRecDepth 100000
set_option maxHeartbeats 1000000
namespace G
open PySem DL PyProof.Rows
local instance : DL.TabCtx := ⟨[]⟩
end G
set_option Elab.async false
set_option linter.all false
set_option maxRecDepth 100000
set_option maxHeartbeats 1000000
namespace G
open PySem DL PyProof.Rows
local instance : DL.TabCtx := ⟨[]⟩
/-- a text that is not long, of plain signs -/
structure Tx1 (L : List Nat) : Prop where
  len : L.length ≤ 500
  chr : ∀ c ∈ L, c < 1114112
theorem lay_of {x : Str} (h : ∀ c ∈ TL.tl x, c < 1114112) : (PyData.str x).canLay0 = true := by
  rw [PyData.canLay0]
  show x.cps.all (· < 0x110000) = true
  rw [← Array.all_toList, List.all_eq_true]
  exact fun c hc => decide_eq_true (h c hc)
theorem Tx1.lay {L : List Nat} (h : Tx1 L) : (PyData.str (mkS L)).canLay0 = true := lay_of h.chr
end G
set_option Elab.async false
set_option linter.all false
set_option maxRecDepth 100000
set_option maxHeartbeats 1000000
namespace G
open PySem DL PyProof.Rows
local instance : DL.TabCtx := ⟨[]⟩
end G
set_option Elab.async false
set_option linter.all false
set_option maxRecDepth 100000
set_option maxHeartbeats 1000000
namespace G
open PySem DL PyProof.Rows
local instance : DL.TabCtx := ⟨[]⟩
end G
set_option Elab.async false
set_option linter.all false
set_option maxRecDepth 100000
set_option maxHeartbeats 1000000
namespace G
open PySem DL PyProof.Rows
local instance : DL.TabCtx := ⟨[]⟩
end G
set_option Elab.async false
set_option linter.all false
set_option maxRecDepth 100000
set_option maxHeartbeats 1000000
namespace G
open PySem DL PyProof.Rows
local instance : DL.TabCtx := ⟨[]⟩
/-- a word's signs -/
structure Wl (x : Str) : Prop where
  len : x.length ≤ 8
  chr : ∀ c ∈ TL.tl x, 97 ≤ c ∧ c ≤ 122
theorem Wl.lay {x : Str} (h : Wl x) : (PyData.str x).canLay0 = true := lay_of fun c hc => by have := h.chr c hc; omega
end G
set_option Elab.async false
set_option linter.all false
set_option maxRecDepth 100000
set_option maxHeartbeats 1000000
namespace G
open PySem DL PyProof.Rows
local instance : DL.TabCtx := ⟨[]⟩
end G
set_option Elab.async false
set_option linter.all false
set_option maxRecDepth 100000
set_option maxHeartbeats 1000000
namespace G
open PySem DL
local instance : DL.TabCtx := ⟨[]⟩
abbrev FD := List (Str × Nat)
def fget (fd : FD) (x : Str) : Option Nat := (fd.find? fun p => decide (p.1 = x)).map (·.2)
def fput (fd : FD) (x : Str) (v : Nat) : FD := if (fd.any fun p => decide (p.1 = x)) = true then fd.map (fun p => if p.1 = x then (p.1, v) else p) else fd ++ [(x, v)]
def fD (fd : FD) : List (PyData × PyData) := fd.map fun p => (.str p.1, natD p.2)
theorem dlook_fD (x : Str) : ∀ fd : FD, dlook (fD fd) (.str x) = (fget fd x).map natD
  | [] => rfl
  | p :: fd => by
    have ih := dlook_fD x fd
    unfold dlook fget fD at *
    rw [List.map_cons, List.find?_cons, List.find?_cons]
    show Option.map _ (match keyEqD (.str p.1) (.str x) with | true => _ | false => _) = _
    rw [keyEq_str]
    cases h : decide (p.1 = x) with
    | true => rfl
    | false => exact ih
theorem keyOk_fD (fd : FD) (x : Str) : keyOk (fD fd) (.str x) = true := by
  have : (fD fd).all (fun p => plainD p.1) = true := by
    unfold fD
    rw [List.all_map, List.all_eq_true]
    exact fun p _ => rfl
  unfold keyOk
  rw [this]; rfl
theorem dput_fD (fd : FD) (x : Str) (v : Nat) : dput (fD fd) (.str x) (natD v) = fD (fput fd x v) := by
  have e1 : ((fD fd).any fun p => keyEqD p.1 (.str x)) = fd.any fun p => decide (p.1 = x) := by
    unfold fD
    rw [List.any_map]
    congr 1
    funext p
    exact keyEq_str p.1 x
  unfold dput fput
  rw [e1]
  by_cases h : (fd.any fun p => decide (p.1 = x)) = true
  · rw [if_pos h, if_pos h]
    unfold fD
    rw [List.map_map, List.map_map]
    refine List.map_congr_left fun p _ => ?_
    show (if keyEqD (.str p.1) (.str x) = true then (PyData.str p.1, natD v) else (.str p.1, natD p.2)) = _
    rw [keyEq_str]
    by_cases e : p.1 = x
    · rw [if_pos (decide_eq_true e)]; simp [e]
    · rw [if_neg (by simpa using e)]; simp [e]
  · rw [if_neg h, if_neg h]
    unfold fD
    rw [List.map_append]; rfl
theorem fget_some_any {fd : FD} {x : Str} : (fget fd x).isSome = fd.any fun p => decide (p.1 = x) := by
  unfold fget
  rw [Option.isSome_map, Bool.eq_iff_iff, List.find?_isSome, List.any_eq_true]
theorem fget_map (fd : FD) (x y : Str) (v : Nat) : fget (fd.map fun p => if p.1 = x then (p.1, v) else p) y = if y = x then (fget fd x).map fun _ => v else fget fd y := by
  induction fd with
  | nil => unfold fget; simp
  | cons p fd ih =>
    unfold fget at *
    rw [List.map_cons, List.find?_cons, List.find?_cons, List.find?_cons]
    by_cases hp : p.1 = x
    · rw [if_pos hp]
      by_cases hy : y = x
      · subst hy
        simp [hp]
      · have h1 : ¬ p.1 = y := fun z => hy (z.symm.trans hp)
        rw [if_neg hy] at ih ⊢
        simp only [h1, decide_false]
        exact ih
    · rw [if_neg hp]
      by_cases hy : p.1 = y
      · have h2 : ¬ y = x := fun z => hp (hy.trans z)
        simp [hy, h2]
      · by_cases h2 : y = x
        · subst h2
          rw [if_pos rfl] at ih ⊢
          simp only [hy, decide_false]
          exact ih
        · rw [if_neg h2] at ih ⊢
          simp only [hy, decide_false]
          exact ih
theorem fget_put (fd : FD) (x y : Str) (v : Nat) : fget (fput fd x v) y = if y = x then some v else fget fd y := by
  unfold fput
  by_cases h : (fd.any fun p => decide (p.1 = x)) = true
  · rw [if_pos h, fget_map]
    rw [← fget_some_any] at h
    obtain ⟨w, hw⟩ := Option.isSome_iff_exists.mp h
    rw [hw]; rfl
  · rw [if_neg h]
    rw [← fget_some_any] at h
    have hn : fget fd x = none := by cases e : fget fd x with | none => rfl | some w => rw [e] at h; exact absurd rfl h
    unfold fget at *
    rw [List.find?_append]
    by_cases hy : y = x
    · subst hy
      rw [if_pos rfl]
      rw [Option.map_eq_none_iff] at hn
      rw [hn]; simp
    · rw [if_neg hy]
      have : List.find? (fun p : Str × Nat => decide (p.1 = y)) [(x, v)] = none := by simp [Ne.symm hy]
      rw [this]; simp
theorem fput_keys (fd : FD) (x : Str) (v : Nat) : (fput fd x v).map (·.1) = if (fget fd x).isSome = true then fd.map (·.1) else fd.map (·.1) ++ [x] := by
  unfold fput
  rw [fget_some_any]
  by_cases h : (fd.any fun p => decide (p.1 = x)) = true
  · rw [if_pos h, if_pos h, List.map_map]
    refine List.map_congr_left fun p _ => ?_
    show (if p.1 = x then (p.1, v) else p).1 = p.1
    by_cases e : p.1 = x <;> simp [e]
  · rw [if_neg h, if_neg h, List.map_append]; rfl
theorem fget_mem {fd : FD} {x : Str} : (fget fd x).isSome = true ↔ x ∈ fd.map (·.1) := by
  rw [fget_some_any, List.any_eq_true, List.mem_map]
  constructor
  · rintro ⟨p, h1, h2⟩; exact ⟨p, h1, of_decide_eq_true h2⟩
  · rintro ⟨p, h1, h2⟩; exact ⟨p, h1, decide_eq_true h2⟩
theorem fput_nodup {fd : FD} {x : Str} {v : Nat} (h : (fd.map (·.1)).Nodup) : ((fput fd x v).map (·.1)).Nodup := by
  rw [fput_keys]
  by_cases q : (fget fd x).isSome = true
  · rw [if_pos q]; exact h
  · rw [if_neg q, List.nodup_append]
    refine ⟨h, by simp, fun a ha b hb => ?_⟩
    rw [List.mem_singleton.mp hb]
    exact fun z => q (fget_mem.mpr (z ▸ ha))
theorem fput_len (fd : FD) (x : Str) (v : Nat) : (fput fd x v).length = if (fget fd x).isSome = true then fd.length else fd.length + 1 := by
  have := congrArg List.length (fput_keys fd x v)
  rw [List.length_map] at this
  rw [this]
  by_cases q : (fget fd x).isSome = true
  · rw [if_pos q, if_pos q, List.length_map]
  · rw [if_neg q, if_neg q, List.length_append, List.length_map]; rfl
abbrev Edge := Str × Str × Nat
inductive Walk (E : List Edge) (a : Str) : Nat → Str → Nat → Prop
  | one {y : Str} {w : Nat} : (a, y, w) ∈ E → Walk E a 1 y w
  | step {k : Nat} {x y : Str} {d w : Nat} : Walk E a k x d → (x, y, w) ∈ E → Walk E a (k + 1) y (d + w)
/-- the least number of beats -/
structure Least (E : List Edge) (a : Str) (f : Str → Option Nat) : Prop where
  sound : ∀ x d, f x = some d → ∃ k, Walk E a k x d
  one : ∀ y w, (a, y, w) ∈ E → ∃ v, f y = some v ∧ v ≤ w
  step : ∀ x y w d, (x, y, w) ∈ E → f x = some d → ∃ v, f y = some v ∧ v ≤ d + w
theorem Least.full {E : List Edge} {a : Str} {f : Str → Option Nat} (L : Least E a f) {k : Nat} {x : Str} {d : Nat} (w : Walk E a k x d) : ∃ v, f x = some v ∧ v ≤ d := by
  induction w with
  | one h => exact L.one _ _ h
  | step _ h ih =>
    obtain ⟨v, e, le⟩ := ih
    obtain ⟨v', e', le'⟩ := L.step _ _ _ _ h e
    exact ⟨v', e', by omega⟩
theorem Least.uniq {E : List Edge} {a : Str} {f g : Str → Option Nat} (F : Least E a f) (G : Least E a g) (x : Str) : f x = g x := by
  have half : ∀ {f g : Str → Option Nat}, Least E a f → Least E a g → ∀ d, f x = some d → ∃ v, g x = some v ∧ v ≤ d := fun F G d e => by
    obtain ⟨k, w⟩ := F.sound x d e
    exact G.full w
  cases e1 : f x with
  | none => cases e2 : g x with
    | none => rfl
    | some d => obtain ⟨v, h, _⟩ := half G F d e2; rw [e1] at h; cases h
  | some d =>
    obtain ⟨v, h, le⟩ := half F G d e1
    obtain ⟨v', h', le'⟩ := half G F v h
    rw [e1] at h'
    cases h'
    rw [h]; congr 1; omega
theorem Walk.len {E : List Edge} {a : Str} (h1 : ∀ e ∈ E, 1 ≤ e.2.2) {k : Nat} {x : Str} {d : Nat} (w : Walk E a k x d) : k ≤ d := by
  induction w with
  | one h => exact h1 _ h
  | step _ h ih => have := h1 _ h; simp only at this; omega
abbrev WK := List (Str × Nat)
def better (fd : FD) (y : Str) (v : Nat) : Bool := match fget fd y with
  | none => true
  | some u => decide (v < u)
def relax (here : Str) (d : Nat) (st : FD × WK) (e : Edge) : FD × WK := if (decide (e.1 = here) && better st.1 e.2.1 (d + e.2.2)) = true then (fput st.1 e.2.1 (d + e.2.2), st.2 ++ [(e.2.1, d + e.2.2)]) else st
/-- what is left to do -/
def pot (names : List Str) (fd : FD) : Nat := (names.map fun x => (fget fd x).getD 10).sum
theorem sum_le' {α : Type} {f g : α → Nat} : ∀ {l : List α}, (∀ x ∈ l, f x ≤ g x) → (l.map f).sum ≤ (l.map g).sum
  | [], _ => Nat.le_refl _
  | x :: l, h => by
    rw [List.map_cons, List.map_cons, List.sum_cons, List.sum_cons]
    have := h x List.mem_cons_self
    have := sum_le' fun y hy => h y (List.mem_cons_of_mem x hy)
    omega
theorem sum_lt' {α : Type} {f g : α → Nat} : ∀ {l : List α} {x : α}, (∀ x ∈ l, f x ≤ g x) → x ∈ l → f x < g x → (l.map f).sum < (l.map g).sum
  | [], x, _, hx, _ => by cases hx
  | y :: l, x, h, hx, hl => by
    rw [List.map_cons, List.map_cons, List.sum_cons, List.sum_cons]
    have h1 := h y List.mem_cons_self
    rcases List.mem_cons.mp hx with rfl | hx
    · have := sum_le' fun z hz => h z (List.mem_cons_of_mem x hz)
      omega
    · have := sum_lt' (fun z hz => h z (List.mem_cons_of_mem y hz)) hx hl
      omega
structure Inv0 (E : List Edge) (a : Str) (names : List Str) (st : FD × WK) : Prop where
  nd : (st.1.map (·.1)).Nodup
  nm : ∀ x ∈ st.1.map (·.1), x ∈ names
  vb : ∀ x v, fget st.1 x = some v → v ≤ 3 * st.1.length
  wb : ∀ p ∈ st.2, p.2 ≤ 3 * st.1.length ∧ p.1 ∈ names
  sv : ∀ x v, fget st.1 x = some v → ∃ k, Walk E a k x v
  sw : ∀ p ∈ st.2, p = (a, 0) ∨ ∃ k, Walk E a k p.1 p.2
theorem Inv0.len {E : List Edge} {a : Str} {names : List Str} {st : FD × WK} (I : Inv0 E a names st) : st.1.length ≤ names.length := by
  have := len_le_sub I.nd fun x hx => I.nm x hx
  rw [List.length_map] at this
  exact this
theorem relax_inv {E : List Edge} {a : Str} {names : List Str} {st : FD × WK} {here : Str} {d : Nat} {e : Edge} (I : Inv0 E a names st) (he : e ∈ E) (hn : e.2.1 ∈ names) (h3 : e.2.2 ≤ 3) (hd : d ≤ 3 * st.1.length) (hh : (here, d) = (a, 0) ∨ ∃ k, Walk E a k here d) (nl : names.length ≤ 3) :
    let st' := relax here d st e
    Inv0 E a names st' ∧ st.1.length ≤ st'.1.length ∧ st'.2.length + pot names st'.1 ≤ st.2.length + pot names st.1 ∧
    (∀ y v, fget st.1 y = some v → ∃ v', fget st'.1 y = some v' ∧ v' ≤ v) ∧ (∀ y v, fget st'.1 y = some v → fget st.1 y = some v ∨ (y, v) ∈ st'.2) ∧ (∀ p ∈ st.2, p ∈ st'.2) ∧
    (e.1 = here → ∃ v, fget st'.1 e.2.1 = some v ∧ v ≤ d + e.2.2) := by
  intro st'
  have hl := I.len
  by_cases hc : (decide (e.1 = here) && better st.1 e.2.1 (d + e.2.2)) = true
  · have es : st' = (fput st.1 e.2.1 (d + e.2.2), st.2 ++ [(e.2.1, d + e.2.2)]) := by show relax here d st e = _; unfold relax; rw [if_pos hc]
    rw [es]
    rw [Bool.and_eq_true, decide_eq_true_iff] at hc
    obtain ⟨c1, c2⟩ := hc
    have wk : ∃ k, Walk E a k e.2.1 (d + e.2.2) := by
      have hm : (here, e.2.1, e.2.2) ∈ E := by rw [← c1]; exact he
      rcases hh with z | ⟨k, w⟩
      · injection z with z1 z2
        subst z2
        rw [Nat.zero_add]
        exact ⟨1, .one (by rw [← z1]; exact hm)⟩
      · exact ⟨k + 1, .step w hm⟩
    have fl := fput_len st.1 e.2.1 (d + e.2.2)
    have lt : ∀ v, fget st.1 e.2.1 = some v → d + e.2.2 < v := fun v hv => by
      unfold better at c2; rw [hv] at c2; exact of_decide_eq_true c2
    have nb : d + e.2.2 ≤ 3 * (fput st.1 e.2.1 (d + e.2.2)).length := by
      cases q : fget st.1 e.2.1 with
      | none => rw [q] at fl; simp at fl; omega
      | some v => rw [q] at fl; simp at fl; have := lt v q; have := I.vb _ v q; omega
    have mono : st.1.length ≤ (fput st.1 e.2.1 (d + e.2.2)).length := by rw [fl]; split <;> omega
    have nl' : (fput st.1 e.2.1 (d + e.2.2)).length ≤ 3 := by
      have : ∀ x ∈ (fput st.1 e.2.1 (d + e.2.2)).map (·.1), x ∈ names := fun x hx => by
        rw [fput_keys] at hx
        by_cases q : (fget st.1 e.2.1).isSome = true
        · rw [if_pos q] at hx; exact I.nm x hx
        · rw [if_neg q] at hx
          rcases List.mem_append.mp hx with hx | hx
          · exact I.nm x hx
          · rw [List.mem_singleton.mp hx]; exact hn
      have := len_le_sub (fput_nodup (x := e.2.1) (v := d + e.2.2) I.nd) this
      rw [List.length_map] at this
      omega
    refine ⟨⟨fput_nodup I.nd, fun x hx => ?_, fun x v hv => ?_, fun p hp => ?_, fun x v hv => ?_, fun p hp => ?_⟩, mono, ?_, fun y v hv => ?_, fun y v hv => ?_, fun p hp => List.mem_append_left _ hp, fun _ => ⟨_, by rw [fget_put, if_pos rfl], Nat.le_refl _⟩⟩
    · rw [fput_keys] at hx
      by_cases q : (fget st.1 e.2.1).isSome = true
      · rw [if_pos q] at hx; exact I.nm x hx
      · rw [if_neg q] at hx
        rcases List.mem_append.mp hx with hx | hx
        · exact I.nm x hx
        · rw [List.mem_singleton.mp hx]; exact hn
    · rw [fget_put] at hv
      by_cases q : x = e.2.1
      · rw [if_pos q] at hv; cases hv; exact nb
      · rw [if_neg q] at hv; have := I.vb x v hv; simp only; omega
    · rcases List.mem_append.mp hp with hp | hp
      · obtain ⟨h1, h2⟩ := I.wb p hp; exact ⟨by simp only; omega, h2⟩
      · rw [List.mem_singleton.mp hp]; exact ⟨nb, hn⟩
    · rw [fget_put] at hv
      by_cases q : x = e.2.1
      · rw [if_pos q] at hv; cases hv; rw [q]; exact wk
      · rw [if_neg q] at hv; exact I.sv x v hv
    · rcases List.mem_append.mp hp with hp | hp
      · exact I.sw p hp
      · rw [List.mem_singleton.mp hp]; exact .inr wk
    · have : pot names (fput st.1 e.2.1 (d + e.2.2)) < pot names st.1 := by
        unfold pot
        refine sum_lt' (x := e.2.1) (fun x hx => ?_) hn ?_
        · rw [fget_put]
          by_cases q : x = e.2.1
          · rw [if_pos q, q]
            cases z : fget st.1 e.2.1 with
            | none => simp only [Option.getD_some, Option.getD_none]; omega
            | some v => have := lt v z; simp only [Option.getD_some]; omega
          · rw [if_neg q]; exact Nat.le_refl _
        · rw [fget_put, if_pos rfl]
          cases z : fget st.1 e.2.1 with
          | none => simp only [Option.getD_some, Option.getD_none]; omega
          | some v => have := lt v z; simp only [Option.getD_some]; omega
      rw [List.length_append]
      simp only [List.length_cons, List.length_nil]
      omega
    · rw [fget_put]
      by_cases q : y = e.2.1
      · rw [if_pos q]; rw [q] at hv; exact ⟨_, rfl, Nat.le_of_lt (lt v hv)⟩
      · rw [if_neg q]; exact ⟨v, hv, Nat.le_refl _⟩
    · rw [fget_put] at hv
      by_cases q : y = e.2.1
      · rw [if_pos q] at hv
        injection hv with hv
        rw [q, ← hv]; exact .inr (List.mem_append_right _ (List.mem_singleton.mpr rfl))
      · rw [if_neg q] at hv; exact .inl hv
  · have es : st' = st := by show relax here d st e = _; unfold relax; rw [if_neg hc]
    rw [es]
    refine ⟨I, Nat.le_refl _, Nat.le_refl _, fun y v hv => ⟨v, hv, Nat.le_refl _⟩, fun y v hv => .inl hv, fun p hp => hp, fun h1 => ?_⟩
    have c2 : ¬ better st.1 e.2.1 (d + e.2.2) = true := fun z => hc (by rw [decide_eq_true h1, z]; rfl)
    unfold better at c2
    cases q : fget st.1 e.2.1 with
    | none => rw [q] at c2; exact absurd rfl c2
    | some v => rw [q] at c2; exact ⟨v, rfl, by simpa using c2⟩
end G
set_option Elab.async false
set_option linter.all false
set_option maxRecDepth 100000
set_option maxHeartbeats 1000000
namespace G
open PySem DL
local instance : DL.TabCtx := ⟨[]⟩
theorem relax_fold {E : List Edge} {a : Str} {names : List Str} {here : Str} {d : Nat} (hn : ∀ e ∈ E, e.2.1 ∈ names) (h3 : ∀ e ∈ E, e.2.2 ≤ 3) (hh : (here, d) = (a, 0) ∨ ∃ k, Walk E a k here d) (nl : names.length ≤ 3) : ∀ (L : List Edge) (st : FD × WK), (∀ e ∈ L, e ∈ E) → Inv0 E a names st → d ≤ 3 * st.1.length →
    Inv0 E a names (L.foldl (relax here d) st) ∧ (L.foldl (relax here d) st).2.length + pot names (L.foldl (relax here d) st).1 ≤ st.2.length + pot names st.1 ∧
    (∀ y v, fget st.1 y = some v → ∃ v', fget (L.foldl (relax here d) st).1 y = some v' ∧ v' ≤ v) ∧ (∀ y v, fget (L.foldl (relax here d) st).1 y = some v → fget st.1 y = some v ∨ (y, v) ∈ (L.foldl (relax here d) st).2) ∧ (∀ p ∈ st.2, p ∈ (L.foldl (relax here d) st).2) ∧
    (∀ e ∈ L, e.1 = here → ∃ v, fget (L.foldl (relax here d) st).1 e.2.1 = some v ∧ v ≤ d + e.2.2)
  | [], st, _, I, _ => ⟨I, Nat.le_refl _, fun y v h => ⟨v, h, Nat.le_refl _⟩, fun y v h => .inl h, fun p h => h, (fun e h => nomatch h)⟩
  | e :: L, st, hL, I, hd => by
    have he := hL e List.mem_cons_self
    obtain ⟨I1, l1, m1, n1, c1, w1, r1⟩ := relax_inv (here := here) (d := d) I he (hn e he) (h3 e he) hd hh nl
    obtain ⟨I2, m2, n2, c2, w2, r2⟩ := relax_fold hn h3 hh nl L (relax here d st e) (fun x hx => hL x (List.mem_cons_of_mem _ hx)) I1 (by omega)
    rw [List.foldl_cons]
    refine ⟨I2, by omega, fun y v h => ?_, fun y v h => ?_, fun p h => w2 p (w1 p h), fun x hx h => ?_⟩
    · obtain ⟨v1, h1, q1⟩ := n1 y v h
      obtain ⟨v2, h2, q2⟩ := n2 y v1 h1
      exact ⟨v2, h2, by omega⟩
    · rcases c2 y v h with h | h
      · rcases c1 y v h with h | h
        · exact .inl h
        · exact .inr (w2 _ h)
      · exact .inr h
    · rcases List.mem_cons.mp hx with rfl | hx
      · obtain ⟨v1, h1, q1⟩ := r1 h
        obtain ⟨v2, h2, q2⟩ := n2 _ v1 h1
        exact ⟨v2, h2, by omega⟩
      · exact r2 x hx h
/-- what is not looked at yet waits -/
structure Proc (E : List Edge) (a : Str) (st : FD × WK) : Prop where
  one : ∀ y w, (a, y, w) ∈ E → (a, 0) ∈ st.2 ∨ ∃ v, fget st.1 y = some v ∧ v ≤ w
  step : ∀ x y w d, (x, y, w) ∈ E → fget st.1 x = some d → (x, d) ∈ st.2 ∨ ∃ v, fget st.1 y = some v ∧ v ≤ d + w
theorem mem_erase {α : Type} {p q : α} : ∀ {l : List α} {j : Nat}, l[j]? = some p → q ∈ l → q = p ∨ q ∈ l.eraseIdx j
  | [], j, h, _ => by simp at h
  | x :: l, 0, h, hq => by
    have : x = p := Option.some.inj h
    rcases List.mem_cons.mp hq with rfl | hq
    · exact .inl this
    · exact .inr hq
  | x :: l, j + 1, h, hq => by
    rcases List.mem_cons.mp hq with rfl | hq
    · exact .inr List.mem_cons_self
    · rcases mem_erase (l := l) (j := j) (by simpa using h) hq with e | e
      · exact .inl e
      · exact .inr (List.mem_cons_of_mem _ e)
theorem erase_sub {α : Type} {q : α} : ∀ {l : List α} {j : Nat}, q ∈ l.eraseIdx j → q ∈ l
  | [], j, h => by simp at h
  | x :: l, 0, h => List.mem_cons_of_mem _ h
  | x :: l, j + 1, h => by
    rcases List.mem_cons.mp h with rfl | h
    · exact List.mem_cons_self
    · exact List.mem_cons_of_mem _ (erase_sub h)
theorem erase_len {α : Type} {p : α} : ∀ {l : List α} {j : Nat}, l[j]? = some p → (l.eraseIdx j).length + 1 = l.length
  | [], j, h => by simp at h
  | x :: l, 0, h => rfl
  | x :: l, j + 1, h => by
    have := erase_len (l := l) (j := j) (by simpa using h)
    show (x :: l.eraseIdx j).length + 1 = _
    simp only [List.length_cons]; omega
/-- one turn -/
def turnS (E : List Edge) (st : FD × WK) (p : Str × Nat) (j : Nat) : FD × WK := E.foldl (relax p.1 p.2) (st.1, st.2.eraseIdx j)
theorem turn_ok {E : List Edge} {a : Str} {names : List Str} {st : FD × WK} {p : Str × Nat} {j : Nat} (hn : ∀ e ∈ E, e.2.1 ∈ names) (h3 : ∀ e ∈ E, e.2.2 ≤ 3) (nl : names.length ≤ 3) (I : Inv0 E a names st) (C : Proc E a st) (hj : st.2[j]? = some p) :
    Inv0 E a names (turnS E st p j) ∧ Proc E a (turnS E st p j) ∧ (turnS E st p j).2.length + pot names (turnS E st p j).1 < st.2.length + pot names st.1 := by
  have hp := List.mem_of_getElem? hj
  have I1 : Inv0 E a names (st.1, st.2.eraseIdx j) := ⟨I.nd, I.nm, I.vb, fun q hq => I.wb q (erase_sub hq), I.sv, fun q hq => I.sw q (erase_sub hq)⟩
  have hl := erase_len hj
  obtain ⟨I2, m2, n2, c2, w2, r2⟩ := relax_fold (here := p.1) (d := p.2) hn h3 (I.sw p hp) nl E (st.1, st.2.eraseIdx j) (fun _ h => h) I1 (I.wb p hp).1
  refine ⟨I2, ⟨fun y w h => ?_, fun x y w d h hx => ?_⟩, ?_⟩
  · rcases C.one y w h with q | ⟨v, q, le⟩
    · rcases mem_erase hj q with e | e
      · obtain ⟨v, q, le⟩ := r2 (a, y, w) h (by rw [← e])
        exact .inr ⟨v, q, by rw [← e] at le; simpa using le⟩
      · exact .inl (w2 _ e)
    · obtain ⟨v', q', le'⟩ := n2 y v q
      exact .inr ⟨v', q', by omega⟩
  · rcases c2 x d hx with q | q
    · rcases C.step x y w d h q with z | ⟨v, z, le⟩
      · rcases mem_erase hj z with e | e
        · obtain ⟨v, q, le⟩ := r2 (x, y, w) h (by rw [← e])
          exact .inr ⟨v, q, by rw [← e] at le; simpa using le⟩
        · exact .inl (w2 _ e)
      · obtain ⟨v', q', le'⟩ := n2 y v z
        exact .inr ⟨v', q', by omega⟩
    · exact .inl q
  · show (E.foldl (relax p.1 p.2) (st.1, st.2.eraseIdx j)).2.length + _ < _
    simp only at m2
    unfold turnS
    omega
theorem proc_least {E : List Edge} {a : Str} {names : List Str} {st : FD × WK} (I : Inv0 E a names st) (C : Proc E a st) (hw : st.2 = []) : Least E a (fget st.1) := by
  refine ⟨I.sv, fun y w h => ?_, fun x y w d h hx => ?_⟩
  · rcases C.one y w h with q | q
    · rw [hw] at q; cases q
    · exact q
  · rcases C.step x y w d h hx with q | q
    · rw [hw] at q; cases q
    · exact q
theorem start_ok {E : List Edge} {a : Str} {names : List Str} (ha : a ∈ names) : Inv0 E a names ([], [(a, 0)]) ∧ Proc E a ([], [(a, 0)]) := by
  refine ⟨⟨List.nodup_nil, (fun x h => nomatch h), (fun x v h => nomatch h), fun p hp => ?_, (fun x v h => nomatch h), fun p hp => .inl (List.mem_singleton.mp hp)⟩, ⟨fun y w _ => .inl List.mem_cons_self, (fun x y w d _ h => nomatch h)⟩⟩
  rw [List.mem_singleton.mp hp]
  exact ⟨Nat.zero_le _, ha⟩
def eD (e : Edge) : PyData := .tuple [.str e.1, .str e.2.1, natD e.2.2]
def wD (p : Str × Nat) : PyData := .tuple [.str p.1, natD p.2]
def SS (C NM : PyData) (E : List Edge) (st : FD × WK) (x4 x6 x7 x8 x9 x10 : Sl) : Rho := [.sh C, .sh NM, .ow (.dict (fD st.1)), .sh (.list (E.map eD)), x4, .ow (.list (st.2.map wD)), x6, x7, x8, x9, x10, .no]
theorem gEq_tx {a b : Str} (ha : (PyData.str a).canLay0 = true) (hb : (PyData.str b).canLay0 = true) : gEq (.str a) (.str b) = some (.bool (decide (a = b))) := gEq_P (j := 0) (k := 0) (.str ha) (.str hb) _ (by simp)
theorem lt_nn (a b : Nat) : gLt (natD a) (natD b) = some (.bool (decide (a < b))) := by
  show some (PyData.bool (decide (((a : Nat) : Int) < ((b : Nat) : Int)))) = _
  rw [decide_eq_decide.mpr (by omega : ((a : Nat) : Int) < ((b : Nat) : Int) ↔ a < b)]
theorem relax_run {C NM : PyData} {E : List Edge} {st : FD × WK} {h : Str} {d : Nat} {e : Edge} (l1 : (PyData.str e.1).canLay0 = true) (l2 : (PyData.str h).canLay0 = true) (hf : st.1.length ≤ 1000) (hw : st.2.length ≤ 1000) (x4 : Sl) :
    b_all_soonest_L2 (SS C NM E st x4 (.sh (.str h)) (.sh (natD d)) (.sh (.str e.1)) (.sh (.str e.2.1)) (.sh (natD e.2.2))) = .nx (SS C NM E (relax h d st e) x4 (.sh (.str h)) (.sh (natD d)) (.sh (.str e.1)) (.sh (.str e.2.1)) (.sh (natD e.2.2))) := by
  have add : gAdd (natD d) (natD e.2.2) = some (natD (d + e.2.2)) := by
    show some (PyData.int (((d : Nat) : Int) + ((e.2.2 : Nat) : Int))) = _
    rw [← Int.natCast_add]
  have nin : gNotInX (.str e.2.1) (.dict (fD st.1)) = some (.bool (!(fget st.1 e.2.1).isSome)) := by
    show (if keyOk (fD st.1) (.str e.2.1) = true then some (PyData.bool (!(dlook (fD st.1) (.str e.2.1)).isSome)) else none) = _
    rw [if_pos (keyOk_fD _ _), dlook_fD, Option.isSome_map]
  have tt : (andT (tst (op2 gEq (vN 8) (vN 6))) (orT (tst (op2 gNotInX (vN 9) (vN 2))) (tst (op2 gLt (op2 gAdd (vN 7) (vN 10)) (op2 gIxX (vN 2) (vN 9)))))) [.sh C, .sh NM, .sh (.dict (fD st.1)), .sh (.list (E.map eD)), demSl x4, .sh (.list (st.2.map wD)), .sh (.str h), .sh (natD d), .sh (.str e.1), .sh (.str e.2.1), .sh (natD e.2.2), .no] =
      .ok (decide (e.1 = h) && better st.1 e.2.1 (d + e.2.2), [.sh C, .sh NM, .sh (.dict (fD st.1)), .sh (.list (E.map eD)), demSl x4, .sh (.list (st.2.map wD)), .sh (.str h), .sh (natD d), .sh (.str e.1), .sh (.str e.2.1), .sh (natD e.2.2), .no]) := by
    have ge := gEq_tx l1 l2
    by_cases hh : e.1 = h
    · rw [decide_eq_true hh] at ge ⊢
      refine andT_t (tst_ok (op2_ok (vN_ok rfl) (vN_ok rfl) ge)) ?_
      rw [Bool.true_and]
      unfold better
      cases q : fget st.1 e.2.1 with
      | none =>
        rw [q] at nin
        exact orT_t (tst_ok (op2_ok (vN_ok rfl) (vN_ok rfl) nin))
      | some v =>
        rw [q] at nin
        have ix : gIxX (.dict (fD st.1)) (.str e.2.1) = some (natD v) := by
          show (if keyOk (fD st.1) (.str e.2.1) = true then dlook (fD st.1) (.str e.2.1) else none) = _
          rw [if_pos (keyOk_fD _ _), dlook_fD, q]; rfl
        exact orT_f (tst_ok (op2_ok (vN_ok rfl) (vN_ok rfl) nin)) (tst_ok (op2_ok (op2_ok (vN_ok rfl) (vN_ok rfl) add) (op2_ok (vN_ok rfl) (vN_ok rfl) ix) (lt_nn _ _)))
    · rw [decide_eq_false hh] at ge ⊢
      rw [Bool.false_and]
      exact andT_f (tst_ok (op2_ok (vN_ok rfl) (vN_ok rfl) ge))
  have bt := brwT_ok (b := false) (ρ := SS C NM E st x4 (.sh (.str h)) (.sh (natD d)) (.sh (.str e.1)) (.sh (.str e.2.1)) (.sh (natD e.2.2))) rfl tt rfl
  rw [b_all_soonest_L2, ifO_ok bt]
  unfold relax
  by_cases hc : (decide (e.1 = h) && better st.1 e.2.1 (d + e.2.2)) = true
  · rw [if_pos hc, if_pos hc]
    have ds := dset_ok (i := 2) (a := op2 gAdd (vN 7) (vN 10)) (b := vN 9) (ρ := SS C NM E st x4 (.sh (.str h)) (.sh (natD d)) (.sh (.str e.1)) (.sh (.str e.2.1)) (.sh (natD e.2.2))) (op2_ok (vN_ok rfl) (vN_ok rfl) add) rfl (vN_ok (i := 9) (d := .str e.2.1) rfl) rfl (keyOk_fD _ _) (by unfold fD; rw [List.length_map]; omega)
    rw [dput_fD] at ds
    have ds : dsetO 2 (vN 9) (op2 gAdd (vN 7) (vN 10)) (SS C NM E st x4 (.sh (.str h)) (.sh (natD d)) (.sh (.str e.1)) (.sh (.str e.2.1)) (.sh (natD e.2.2))) = .nx (SS C NM E (fput st.1 e.2.1 (d + e.2.2), st.2) x4 (.sh (.str h)) (.sh (natD d)) (.sh (.str e.1)) (.sh (.str e.2.1)) (.sh (natD e.2.2))) := ds
    rw [seq_nx ds]
    have ev : opA gTupD (aC (vN 9) (aC (op2 gAdd (vN 7) (vN 10)) aN)) (SS C NM E (fput st.1 e.2.1 (d + e.2.2), st.2) x4 (.sh (.str h)) (.sh (natD d)) (.sh (.str e.1)) (.sh (.str e.2.1)) (.sh (natD e.2.2))) = .ok (wD (e.2.1, d + e.2.2), SS C NM E (fput st.1 e.2.1 (d + e.2.2), st.2) x4 (.sh (.str h)) (.sh (natD d)) (.sh (.str e.1)) (.sh (.str e.2.1)) (.sh (natD e.2.2))) := opA_ok (aC_ok (vN_ok rfl) (aC1 (op2_ok (vN_ok rfl) (vN_ok rfl) add))) rfl
    refine (app_ok (i := 5) (ds := st.2.map wD) rfl ev rfl (by rw [List.length_map, e_LIM]; omega)).trans ?_
    unfold SS
    rw [List.map_append]; rfl
  · rw [if_neg hc, if_neg hc]; rfl
theorem relax_loop {C NM : PyData} {E : List Edge} {h : Str} {d : Nat} (l2 : (PyData.str h).canLay0 = true) (x4 : Sl) {a : Str} {names : List Str} (hn : ∀ e ∈ E, e.2.1 ∈ names) (h3 : ∀ e ∈ E, e.2.2 ≤ 3) (hh : (h, d) = (a, 0) ∨ ∃ k, Walk E a k h d) (nl : names.length ≤ 3) (hE : ∀ e ∈ E, (PyData.str e.1).canLay0 = true) : ∀ (L : List Edge) (st : FD × WK) (x8 x9 x10 : Sl), (∀ e ∈ L, e ∈ E) → Inv0 E a names st → d ≤ 3 * st.1.length → st.2.length + pot names st.1 ≤ 100 →
    ∃ y8 y9 y10, loopO (unT (gsC (setS 8) (gsC (setS 9) (gsC (setS 10) gsN)))) b_all_soonest_L2 (L.map eD) (SS C NM E st x4 (.sh (.str h)) (.sh (natD d)) x8 x9 x10) = .nx (SS C NM E (L.foldl (relax h d) st) x4 (.sh (.str h)) (.sh (natD d)) y8 y9 y10)
  | [], st, x8, x9, x10, _, _, _, _ => ⟨x8, x9, x10, rfl⟩
  | e :: L, st, x8, x9, x10, hL, I, hd, hm => by
    have he := hL e List.mem_cons_self
    obtain ⟨I1, l1, m1, _⟩ := relax_inv (here := h) (d := d) I he (hn e he) (h3 e he) hd hh nl
    obtain ⟨y8, y9, y10, k⟩ := relax_loop (C := C) (NM := NM) l2 x4 hn h3 hh nl hE L (relax h d st e) (.sh (.str e.1)) (.sh (.str e.2.1)) (.sh (natD e.2.2)) (fun x hx => hL x (List.mem_cons_of_mem _ hx)) I1 (by omega) (by omega)
    refine ⟨y8, y9, y10, ?_⟩
    have g1 : unT (gsC (setS 8) (gsC (setS 9) (gsC (setS 10) gsN))) (eD e) (SS C NM E st x4 (.sh (.str h)) (.sh (natD d)) x8 x9 x10) = .ok (SS C NM E st x4 (.sh (.str h)) (.sh (natD d)) (.sh (.str e.1)) (.sh (.str e.2.1)) (.sh (natD e.2.2))) := rfl
    rw [List.map_cons, loopO, g1]
    simp only [relax_run (C := C) (NM := NM) (E := E) (st := st) (d := d) (hE e he) l2 (by have := I.len; omega) (by omega) x4]
    rw [k, List.foldl_cons]
end G
set_option Elab.async false
set_option linter.all false
set_option maxRecDepth 100000
set_option maxHeartbeats 1000000
namespace G
open PySem DL
local instance : DL.TabCtx := ⟨[]⟩
theorem keys_wk {cb : List PyData → Option PyData} (h : ∀ p : Str × Nat, cb [wD p] = some (.tuple [natD p.2, .str p.1])) : ∀ wk : WK, HD.keysM cb (wk.map wD) = some (wk.map fun p => ((p.2 : Int), p.1))
  | [] => rfl
  | p :: wk => by
    rw [List.map_cons, HD.keysM, h p, keys_wk h wk]; rfl
theorem best_le (bt : Nat → Nat → Bool) : ∀ n, argBest bt n ≤ n
  | 0 => Nat.le_refl _
  | n + 1 => by
    have := best_le bt n
    unfold argBest
    split <;> omega
theorem P_wD {k : Nat} {p : Str × Nat} (h : (PyData.str p.1).canLay0 = true) : P (k + 1) (wD p) := .tuple fun x hx => by
  simp at hx
  rcases hx with rfl | rfl
  · exact .str h
  · exact .int _
theorem wD_inj {p q : Str × Nat} (h : wD p = wD q) : p = q := by
  unfold wD at h
  injection h with h
  injection h with h1 h2
  injection h1 with h1
  injection h2 with h2 _
  injection h2 with h2
  exact Prod.ext h1 (by omega)
theorem find_wD {p : Str × Nat} : ∀ {wk : WK}, (∀ q ∈ wk, (PyData.str q.1).canLay0 = true) → p ∈ wk → ∃ j, findD (wD p) (wk.map wD) = some j ∧ wk[j]? = some p
  | [], _, h => by cases h
  | q :: wk, hl, h => by
    have hp : (PyData.str p.1).canLay0 = true := hl p h
    rw [List.map_cons, findD]
    by_cases e : q = p
    · subst e
      rw [if_pos (((P_wD (k := 0) hp).eqv (P_wD (k := 0) hp)).mpr rfl)]
      exact ⟨0, rfl, rfl⟩
    · have hq : ¬ PyData.eqv (wD q) (wD p) = true := fun z => e (wD_inj (((P_wD (k := 0) (hl q List.mem_cons_self)).eqv (P_wD (k := 0) hp)).mp z))
      rw [if_neg hq]
      rcases List.mem_cons.mp h with z | h
      · exact absurd z.symm e
      · obtain ⟨j, h1, h2⟩ := find_wD (fun x hx => hl x (List.mem_cons_of_mem _ hx)) h
        exact ⟨j + 1, by rw [h1]; rfl, h2⟩
theorem erase_map {α β : Type} (f : α → β) : ∀ (l : List α) (j : Nat), (l.map f).eraseIdx j = (l.eraseIdx j).map f
  | [], _ => rfl
  | _ :: _, 0 => rfl
  | x :: l, j + 1 => by
    show f x :: (l.map f).eraseIdx j = f x :: (l.eraseIdx j).map f
    rw [erase_map f l j]
section
variable {C NM : PyData} {E : List Edge} {a : Str} {names : List Str}
structure EOk (E : List Edge) (names : List Str) : Prop where
  to : ∀ e ∈ E, e.2.1 ∈ names
  fr : ∀ e ∈ E, e.1 ∈ names
  lo : ∀ e ∈ E, 1 ≤ e.2.2
  hi : ∀ e ∈ E, e.2.2 ≤ 3
  nl : names.length ≤ 3
  lay : ∀ x ∈ names, (PyData.str x).canLay0 = true
theorem turn_run (K : EOk E names) {st : FD × WK} (I : Inv0 E a names st) (hne : st.2 ≠ []) (hm : st.2.length + pot names st.1 ≤ 100) (x4 x6 x7 x8 x9 x10 : Sl) :
    ∃ p j y8 y9 y10, st.2[j]? = some p ∧ b_all_soonest_L3 (SS C NM E st x4 x6 x7 x8 x9 x10) = .nx (SS C NM E (turnS E st p j) x4 (.sh (.str p.1)) (.sh (natD p.2)) y8 y9 y10) := by
  have hlay : ∀ q ∈ st.2, (PyData.str q.1).canLay0 = true := fun q hq => K.lay _ (I.wb q hq).2
  have hks := keys_wk (cb := HD.lamF [8] (opA gTupD (aC (op2 gIx (vN 8) (cD (.int 1))) (aC (op2 gIx (vN 8) (cD (.int 0))) aN))) (demR false (SS C NM E st x4 x6 x7 x8 x9 x10))) (fun p => rfl) st.2
  have hlt : argBest (HD.btK (st.2.map fun p => ((p.2 : Int), p.1))) ((st.2.map wD).length - 1) < st.2.length := by
    have := best_le (HD.btK (st.2.map fun p => ((p.2 : Int), p.1))) ((st.2.map wD).length - 1)
    rw [List.length_map] at this ⊢
    have := List.length_pos_iff.mpr hne
    omega
  obtain ⟨p, hp⟩ : ∃ p, st.2[argBest (HD.btK (st.2.map fun p => ((p.2 : Int), p.1))) ((st.2.map wD).length - 1)]? = some p := ⟨_, List.getElem?_eq_getElem hlt⟩
  have hpm := List.mem_of_getElem? hp
  have mk : HD.minK (HD.lamF [8] (opA gTupD (aC (op2 gIx (vN 8) (cD (.int 1))) (aC (op2 gIx (vN 8) (cD (.int 0))) aN))) (demR false (SS C NM E st x4 x6 x7 x8 x9 x10))) (st.2.map wD) = some (wD p) := by
    unfold HD.minK
    have hall : ((st.2.map wD).all isTupD) = true := by
      rw [List.all_map, List.all_eq_true]; exact fun _ _ => rfl
    rw [if_pos hall, hks]
    show (st.2.map wD)[argBest (HD.btK (st.2.map fun p => ((p.2 : Int), p.1))) ((st.2.map wD).length - 1)]? = _
    rw [List.getElem?_map, hp]; rfl
  have mn : HD.opMin [8] (opA gTupD (aC (op2 gIx (vN 8) (cD (.int 1))) (aC (op2 gIx (vN 8) (cD (.int 0))) aN))) (vN 5) (demR false (SS C NM E st x4 x6 x7 x8 x9 x10)) = .ok (wD p, demR false (SS C NM E st x4 x6 x7 x8 x9 x10)) := by
    unfold HD.opMin M.bind
    have v5 : vN 5 (demR false (SS C NM E st x4 x6 x7 x8 x9 x10)) = .ok (.list (st.2.map wD), demR false (SS C NM E st x4 x6 x7 x8 x9 x10)) := vN_ok rfl
    rw [v5]
    simp only [mk]
    try rfl
  have s1 : asgO (brw false (HD.opMin [8] (opA gTupD (aC (op2 gIx (vN 8) (cD (.int 1))) (aC (op2 gIx (vN 8) (cD (.int 0))) aN))) (vN 5))) (unT (gsC (setS 6) (gsC (setS 7) gsN))) (SS C NM E st x4 x6 x7 x8 x9 x10) = .nx (SS C NM E st x4 (.sh (.str p.1)) (.sh (natD p.2)) x8 x9 x10) := asg_gm (brw_ok rfl mn rfl rfl) rfl
  obtain ⟨j, f1, f2⟩ := find_wD hlay hpm
  have s2 : remO 5 (opA gTupD (aC (vN 6) (aC (vN 7) aN))) (SS C NM E st x4 (.sh (.str p.1)) (.sh (natD p.2)) x8 x9 x10) = .nx (SS C NM E (st.1, st.2.eraseIdx j) x4 (.sh (.str p.1)) (.sh (natD p.2)) x8 x9 x10) := by
    have ev : opA gTupD (aC (vN 6) (aC (vN 7) aN)) (SS C NM E st x4 (.sh (.str p.1)) (.sh (natD p.2)) x8 x9 x10) = .ok (wD p, SS C NM E st x4 (.sh (.str p.1)) (.sh (natD p.2)) x8 x9 x10) := opA_ok (aC_ok (vN_ok rfl) (aC1 (vN_ok rfl))) rfl
    have sh : (SeqAt.shaped (wD p) && PyData.canLayAll0 (st.2.map wD)) = true := by
      rw [(P_wD (k := 0) (hlay p hpm)).shaped (by decide), lay_all fun x hx => by
        obtain ⟨q, hq, rfl⟩ := List.mem_map.mp hx
        exact (P_wD (k := 0) (hlay q hq)).lay.1]
      rfl
    unfold remO
    show exO _ _ _ = _
    unfold exO
    rw [ev]
    show (if (SeqAt.shaped (wD p) && PyData.canLayAll0 (st.2.map wD)) = true then (match findD (wD p) (st.2.map wD) with
        | some j => O.nx ((SS C NM E st x4 (.sh (.str p.1)) (.sh (natD p.2)) x8 x9 x10).set 5 (.ow (.list ((st.2.map wD).eraseIdx j))))
        | none => .bad) else .bad) = _
    rw [if_pos sh, f1]
    simp only [erase_map]
    rfl
  have I1 : Inv0 E a names (st.1, st.2.eraseIdx j) := ⟨I.nd, I.nm, I.vb, fun q hq => I.wb q (erase_sub hq), I.sv, fun q hq => I.sw q (erase_sub hq)⟩
  have hl := erase_len f2
  obtain ⟨y8, y9, y10, s3⟩ := relax_loop (C := C) (NM := NM) (hlay p hpm) x4 K.to K.hi (I.sw p hpm) K.nl (fun e he => K.lay _ (K.fr e he)) E (st.1, st.2.eraseIdx j) x8 x9 x10 (fun _ h => h) I1 (I.wb p hpm).1 (by simp only; omega)
  refine ⟨p, j, y8, y9, y10, f2, ?_⟩
  rw [b_all_soonest_L3, seq_nx s1, seq_nx s2]
  exact (for_ok (seqI_l (vN_ok rfl))).trans s3
theorem search_run (K : EOk E names) : ∀ (n : Nat) (st : FD × WK) (x4 x6 x7 x8 x9 x10 : Sl) (fuel : Nat), Inv0 E a names st → Proc E a st → st.2.length + pot names st.1 ≤ n → n ≤ 100 → n < fuel →
    ∃ fd y6 y7 y8 y9 y10, whileN (brwT false (tst (op2 gNe (vN 5) (opA gLstD aN)))) b_all_soonest_L3 fuel (SS C NM E st x4 x6 x7 x8 x9 x10) = .nx (SS C NM E (fd, []) x4 y6 y7 y8 y9 y10) ∧ Inv0 E a names (fd, []) ∧ Proc E a (fd, [])
  | n, st, x4, x6, x7, x8, x9, x10, fuel, I, Q, hm, hn, hf => by
    obtain ⟨k, rfl⟩ : ∃ k, fuel = k + 1 := ⟨fuel - 1, by omega⟩
    have hlay : ∀ q ∈ st.2, (PyData.str q.1).canLay0 = true := fun q hq => K.lay _ (I.wb q hq).2
    have p1 : P 2 (.list (st.2.map wD)) := .list fun x hx => by
      obtain ⟨q, hq, rfl⟩ := List.mem_map.mp hx
      exact P_wD (hlay q hq)
    have p0 : P 1 (.list []) := .list fun x hx => by cases hx
    have ne : gNe (.list (st.2.map wD)) (.list []) = some (.bool (!decide (st.2 = []))) := gNe_P p1 p0 _ (by simp)
    have tt : brwT false (tst (op2 gNe (vN 5) (opA gLstD aN))) (SS C NM E st x4 x6 x7 x8 x9 x10) = .ok (!decide (st.2 = []), SS C NM E st x4 x6 x7 x8 x9 x10) := brwT_ok rfl (tst_ok (op2_ok (vN_ok rfl) (opA_ok aN_ok rfl) ne)) rfl
    by_cases he : st.2 = []
    · rw [decide_eq_true he] at tt
      obtain ⟨fd, wk⟩ := st
      simp only at he
      subst he
      exact ⟨fd, x6, x7, x8, x9, x10, while_f tt, I, Q⟩
    · rw [decide_eq_false he] at tt
      obtain ⟨p, j, y8, y9, y10, hj, ht⟩ := turn_run (C := C) (NM := NM) K I he (by omega) x4 x6 x7 x8 x9 x10
      obtain ⟨I1, Q1, m1⟩ := turn_ok K.to K.hi K.nl I Q hj
      have : 0 < n := by omega
      obtain ⟨fd, z6, z7, z8, z9, z10, h1, h2, h3⟩ := search_run K (n - 1) (turnS E st p j) x4 (.sh (.str p.1)) (.sh (natD p.2)) y8 y9 y10 k I1 Q1 (by omega) (by omega) (by omega)
      exact ⟨fd, z6, z7, z8, z9, z10, (while_t tt ht).trans h1, h2, h3⟩
  termination_by n => n
  decreasing_by omega
end
def waysE (m : Nat) (ss : List Sg) : List Edge := (ss.map (leanS m)).flatMap fun s => s.ears.map fun e => (e.1, s.name, e.2.toNat)
theorem left_ears {m : Nat} {s : Sg} {e : Str × Int} (h : e ∈ left m s) : e ∈ s.ears := left_sub.subset h
theorem ways_ok {many : Int} {m : Nat} (hm : many = m) {ss : List Sg} (h : Good many ss) (hl : ss.length ≤ 3) : EOk (waysE m ss) (ss.map (·.name)) := by
  have key : ∀ e ∈ waysE m ss, ∃ s ∈ ss, ∃ q ∈ s.ears, e = (q.1, s.name, q.2.toNat) := fun e he => by
    unfold waysE at he
    obtain ⟨s', hs', he⟩ := List.mem_flatMap.mp he
    obtain ⟨s, hs, rfl⟩ := List.mem_map.mp hs'
    obtain ⟨q, hq, rfl⟩ := List.mem_map.mp he
    rw [lean_ears] at hq
    exact ⟨s, hs, q, left_ears hq, by rw [lean_name]⟩
  refine ⟨fun e he => ?_, fun e he => ?_, fun e he => ?_, fun e he => ?_, by rw [List.length_map]; exact hl, fun x hx => ?_⟩
  · obtain ⟨s, hs, q, hq, rfl⟩ := key e he
    exact List.mem_map.mpr ⟨s, hs, rfl⟩
  · obtain ⟨s, hs, q, hq, rfl⟩ := key e he
    exact ((h.sg s hs).ear q hq).2.1
  · obtain ⟨s, hs, q, hq, rfl⟩ := key e he
    have := ((h.sg s hs).ear q hq).2.2
    simp only; omega
  · obtain ⟨s, hs, q, hq, rfl⟩ := key e he
    have := ((h.sg s hs).ear q hq).2.2
    simp only; omega
  · obtain ⟨s, hs, rfl⟩ := List.mem_map.mp hx
    exact (h.sg s hs).word.2
theorem pot_nil (names : List Str) : pot names [] = 10 * names.length := by
  unfold pot
  induction names with
  | nil => rfl
  | cons x l ih =>
    rw [List.map_cons, List.sum_cons, ih]
    show 10 + _ = _
    rw [List.length_cons]; omega
theorem ways_loop {C NM : PyData} {many : Int} {names : List Str} (x2 : Sl) : ∀ (ls : List Sg) (acc : List Edge) (x4 : Sl), (∀ s ∈ ls, ∀ e ∈ s.ears, 0 ≤ e.2) → (∀ s ∈ ls, s.ears.length ≤ 2) → acc.length + 2 * ls.length ≤ 1000 →
    ∃ y4, loopO (setS 4) b_all_soonest_L1 (ls.map Sg.d) [.sh C, .sh NM, x2, .sh (.list (acc.map eD)), x4, .no, .no, .no, .no, .no, .no, .no] = .nx [.sh C, .sh NM, x2, .sh (.list ((acc ++ ls.flatMap fun s => s.ears.map fun e => (e.1, s.name, e.2.toNat)).map eD)), y4, .no, .no, .no, .no, .no, .no, .no]
  | [], acc, x4, _, _, _ => ⟨x4, by simp [loopO]⟩
  | s :: ls, acc, x4, h0, h2, hl => by
    rw [List.length_cons] at hl
    have he := h2 s List.mem_cons_self
    obtain ⟨y4, k⟩ := ways_loop (C := C) (NM := NM) (many := many) (names := names) x2 ls (acc ++ s.ears.map fun e => (e.1, s.name, e.2.toNat)) (.sh s.d) (fun t ht => h0 t (List.mem_cons_of_mem _ ht)) (fun t ht => h2 t (List.mem_cons_of_mem _ ht)) (by rw [List.length_append, List.length_map]; omega)
    have i0 : gIx s.d (.int 0) = some (.str s.name) := rfl
    have i1 : gIx s.d (.int 1) = some (.tuple (s.ears.map siD)) := rfl
    have lc := lc_map (vs := [11]) (a := seqI (op2 gIx (vN 4) (cD (.int 1)))) (g := setS 11) (e := opA gTupD (aC (op2 gIx (vN 11) (cD (.int 0))) (aC (op2 gIx (vN 4) (cD (.int 0))) (aC (op2 gIx (vN 11) (cD (.int 1))) aN)))) (ρ := [.sh C, .sh NM, x2, .sh (.list (acc.map eD)), .sh s.d, .no, .no, .no, .no, .no, .no, .no]) s.ears siD (fun e => eD (e.1, s.name, e.2.toNat)) (seqI_t (op2_ok (vN_ok rfl) cD_ok i1)) rfl (by rw [e_LIM]; omega) fun e hem => ⟨[.sh C, .sh NM, x2, .sh (.list (acc.map eD)), .sh s.d, .no, .no, .no, .no, .no, .no, .sh (siD e)], rfl, by
      have e0 := h0 s List.mem_cons_self e hem
      refine opA_ok (aC_ok (op2_ok (vN_ok rfl) cD_ok rfl) (aC_ok (op2_ok (vN_ok rfl) cD_ok i0) (aC1 (op2_ok (vN_ok rfl) cD_ok rfl)))) ?_
      show some (PyData.tuple [.str e.1, .str s.name, .int e.2]) = some (.tuple [.str e.1, .str s.name, .int (e.2.toNat : Nat)])
      rw [Int.toNat_of_nonneg e0], rfl⟩
    have ad : gAdd (.list (acc.map eD)) (.list (s.ears.map fun e => eD (e.1, s.name, e.2.toNat))) = some (.list ((acc ++ s.ears.map fun e => (e.1, s.name, e.2.toNat)).map eD)) := by
      rw [gAdd_l (by rw [List.length_map, List.length_map]; omega), List.map_append, List.map_map]; rfl
    have bd : b_all_soonest_L1 [.sh C, .sh NM, x2, .sh (.list (acc.map eD)), .sh s.d, .no, .no, .no, .no, .no, .no, .no] = .nx [.sh C, .sh NM, x2, .sh (.list ((acc ++ s.ears.map fun e => (e.1, s.name, e.2.toNat)).map eD)), .sh s.d, .no, .no, .no, .no, .no, .no, .no] := by
      rw [b_all_soonest_L1]
      exact asg_set (op2_ok (vN_ok rfl) lc ad) (by simp)
    refine ⟨y4, ?_⟩
    have g1 : setS 4 s.d [.sh C, .sh NM, x2, .sh (.list (acc.map eD)), x4, .no, .no, .no, .no, .no, .no, .no] = .ok [.sh C, .sh NM, x2, .sh (.list (acc.map eD)), .sh s.d, .no, .no, .no, .no, .no, .no, .no] := rfl
    rw [List.map_cons, loopO, g1]
    simp only [bd]
    rw [k, List.flatMap_cons, List.append_assoc]
theorem all_soonest_ok {many : Int} {m : Nat} (hm : many = m) {ss : List Sg} (h : Good many ss) (hl : ss.length ≤ 3) {a : Str} (ha : a ∈ ss.map (·.name)) : ∃ fd : FD, m_all_soonest [chD many ss, .str a] = .ok (.dict (fD fd)) ∧ Least (waysE m ss) a (fget fd) ∧ (fd.map (·.1)).Nodup ∧ (∀ x ∈ fd.map (·.1), x ∈ ss.map (·.name)) := by
  have K := ways_ok hm h hl
  have kl := leaned_ok hm h
  have i1 : gIx (chD many (ss.map (leanS m))) (.int 1) = some (.tuple ((ss.map (leanS m)).map Sg.d)) := rfl
  have le0 : ∀ s ∈ ss.map (leanS m), ∀ e ∈ s.ears, 0 ≤ e.2 := fun s hs e he => by
    obtain ⟨t, ht, rfl⟩ := List.mem_map.mp hs
    rw [lean_ears] at he
    have := ((h.sg t ht).ear e (left_ears he)).2.2
    omega
  have le2 : ∀ s ∈ ss.map (leanS m), s.ears.length ≤ 2 := fun s hs => by
    obtain ⟨t, ht, rfl⟩ := List.mem_map.mp hs
    rw [lean_ears]
    have := (left_sub (m := m) (s := t)).length_le
    have := (h.sg t ht).elen
    omega
  obtain ⟨y4, w1⟩ := ways_loop (C := chD many ss) (NM := .str a) (many := many) (names := ss.map (·.name)) (.ow (.dict [])) (ss.map (leanS m)) [] .no le0 le2 (by rw [List.length_map]; simp; omega)
  rw [List.nil_append] at w1
  have w1 : loopO (setS 4) b_all_soonest_L1 ((ss.map (leanS m)).map Sg.d) [.sh (chD many ss), .sh (.str a), .ow (.dict []), .sh (.list []), .no, .no, .no, .no, .no, .no, .no, .no] = .nx [.sh (chD many ss), .sh (.str a), .ow (.dict []), .sh (.list ((waysE m ss).map eD)), y4, .no, .no, .no, .no, .no, .no, .no] := w1
  obtain ⟨I0, Q0⟩ := start_ok (E := waysE m ss) (names := ss.map (·.name)) ha
  have mp : ([(a, 0)] : WK).length + pot (ss.map (·.name)) [] ≤ 31 := by rw [pot_nil, List.length_map]; simp; omega
  obtain ⟨fd, y6, y7, y8, y9, y10, w2, I1, Q1⟩ := search_run (C := chD many ss) (NM := .str a) K 31 ([], [(a, 0)]) y4 .no .no .no .no .no 100000 I0 Q0 mp (by omega) (by omega)
  refine ⟨fd, ?_, proc_least I1 Q1 rfl, I1.nd, I1.nm⟩
  have s1 : parO [2, 3] (xOw (cD (.dict [])) (xSh (opA gLstD aN) xN)) [.sh (chD many ss), .sh (.str a), .no, .no, .no, .no, .no, .no, .no, .no, .no, .no] = .nx [.sh (chD many ss), .sh (.str a), .ow (.dict []), .sh (.list []), .no, .no, .no, .no, .no, .no, .no, .no] := rfl
  have s3 : ownO 5 (aC (opA gTupD (aC (vN 1) (aC (cD (.int 0)) aN))) aN) [.sh (chD many ss), .sh (.str a), .ow (.dict []), .sh (.list ((waysE m ss).map eD)), y4, .no, .no, .no, .no, .no, .no, .no] = .nx (SS (chD many ss) (.str a) (waysE m ss) ([], [(a, 0)]) y4 .no .no .no .no .no) := (own_ok (ds := [wD (a, 0)]) (aC1 (opA_ok (aC_ok (vN_ok rfl) (aC1 cD_ok)) rfl)) (by rw [e_LIM]; simp)).trans rfl
  refine fn_rt' (ρ0 := [.sh (chD many ss), .sh (.str a), .no, .no, .no, .no, .no, .no, .no, .no, .no, .no]) rfl rfl (ρ' := demR false (SS (chD many ss) (.str a) (waysE m ss) (fd, []) y4 y6 y7 y8 y9 y10)) ?_
  rw [b_all_soonest, seq_nx s1, seq_nx ((for_ok (seqI_t (op2_ok (callM_ok (aC1 (vN_ok rfl)) kl) cD_ok i1))).trans w1), seq_nx s3, seq_nx (e_whileO.trans w2)]
  exact ret_ok (vN_ok rfl)
end G
set_option Elab.async false
set_option linter.all false
set_option maxRecDepth 100000
set_option maxHeartbeats 1000000
namespace G
open PySem DL
local instance : DL.TabCtx := ⟨[]⟩
theorem name_ok {many : Int} {ss : List Sg} (h : Good many ss) {x : Str} (hx : x ∈ ss.map (·.name)) : m_need_name [chD many ss, .str x] = .ok .none := by
  obtain ⟨s, hs, rfl⟩ := List.mem_map.mp hx
  have h4 := h.l4
  have n1 := all_names_ok (many := many) (ss := ss) (by rw [e_LIM]; omega)
  have := gNotIn_P (j := 0) (k := 0) (x := .str s.name) (ds := ss.map fun s => .str s.name) (.str (h.sg s hs).word.2) (fun y hy => by obtain ⟨t, h1, rfl⟩ := List.mem_map.mp hy; exact .str (h.sg t h1).word.2) True (by
    simp only [iff_true]
    exact List.mem_map.mpr ⟨s, hs, rfl⟩)
  simp [m_need_name, b_need_name, fnRun, start0, isD, n1, this]
theorem brwF_go {b : Bool} {a : M PyData} {d : PyData} {ρ ρ1 ρ2 ρ3 : Rho} (hd : demR b ρ = ρ1) (ha : a ρ1 = .ok (d, ρ2)) (hi : immC d = true) (hb : backR b ρ ρ2 = some ρ3) : brwF b a ρ = .ok (d, ρ3) := by
  subst hd; unfold brwF; rw [ha]; simp only [hi, if_true, hb]
theorem dget1_ok {a b : M PyData} {ps : List (PyData × PyData)} {k : PyData} {ρ ρ1 ρ2 : Rho} (ha : a ρ = .ok (.dict ps, ρ1)) (hb : b ρ1 = .ok (k, ρ2)) (hk : keyOk ps k = true) : dget1 a b ρ = .ok ((dlook ps k).getD .none, ρ2) := by
  show M.bind a _ ρ = _
  unfold M.bind
  rw [ha]
  show M.bind b (fun k => M.opt (gGet1 (.dict ps) k)) ρ1 = _
  unfold M.bind
  rw [hb]
  show M.opt (gGet1 (.dict ps) k) ρ2 = _
  have : gGet1 (.dict ps) k = some ((dlook ps k).getD .none) := by
    show (if keyOk ps k = true then some ((dlook ps k).getD .none) else none) = _
    rw [if_pos hk]
  rw [this]; rfl
def onD (o : Option Nat) : PyData := match o with
  | none => .none
  | some d => natD d
theorem onD_get (fd : FD) (x : Str) : (dlook (fD fd) (.str x)).getD .none = onD (fget fd x) := by
  rw [dlook_fD]; cases fget fd x <;> rfl
theorem txts_fD (fd : FD) : txtsD ((fD fd).map (·.1)) = some (fd.map (·.1)) := by
  have : (fD fd).map (·.1) = (fd.map (·.1)).map PyData.str := by unfold fD; rw [List.map_map, List.map_map]; rfl
  rw [this, txtsD_map]
theorem gSortS_fD {fd : FD} (h : fd.length < 64) : gSortS [.dict (fD fd)] = some (.list ((SrtQ.isort SrtQ.ltS (fd.map (·.1))).map .str)) := by
  show (txtsD ((fD fd).map (·.1))).bind _ = _
  rw [txts_fD, Option.bind_some, if_pos (by rw [List.length_map]; exact h)]
theorem soon_ok {many : Int} {m : Nat} (hm : many = m) {ss : List Sg} (h : Good many ss) (hl : ss.length ≤ 3) {a : Str} (ha : a ∈ ss.map (·.name)) : ∃ fd : FD, Least (waysE m ss) a (fget fd) ∧ (fd.map (·.1)).Nodup ∧ (∀ x ∈ fd.map (·.1), x ∈ ss.map (·.name)) ∧
    m_reaches [chD many ss, .str a] = .ok (.list ((SrtQ.isort SrtQ.ltS (fd.map (·.1))).map .str)) ∧ ∀ x ∈ ss.map (·.name), m_soonest [chD many ss, .str a, .str x] = .ok (onD (fget fd x)) := by
  obtain ⟨fd, k1, k2, k3, k4⟩ := all_soonest_ok hm h hl ha
  have nc := need_choir_ok h
  have fl : fd.length < 64 := by
    have := len_le_sub k3 k4
    rw [List.length_map, List.length_map] at this
    omega
  refine ⟨fd, k2, k3, k4, ?_, fun x hx => ?_⟩
  · refine fn_rt' (ρ0 := [.sh (chD many ss), .sh (.str a)]) rfl rfl (ρ' := [.sh (chD many ss), .sh (.str a)]) ?_
    rw [b_reaches, seq_nx (drop_nx (callM_ok (aC1 (vN_ok rfl)) nc)), seq_nx (drop_nx (callM_ok (aC_ok (vN_ok rfl) (aC1 (vN_ok rfl))) (name_ok h ha)))]
    exact ret_ok (opA_ok (aC1 (callM_ok (aC_ok (vN_ok rfl) (aC1 (vN_ok rfl))) k1)) (gSortS_fD fl))
  · refine fn_rt' (ρ0 := [.sh (chD many ss), .sh (.str a), .sh (.str x)]) rfl rfl (ρ' := [.sh (chD many ss), .sh (.str a), .sh (.str x)]) ?_
    rw [b_soonest, seq_nx (drop_nx (callM_ok (aC1 (vN_ok rfl)) nc)), seq_nx (drop_nx (callM_ok (aC_ok (vN_ok rfl) (aC1 (vN_ok rfl))) (name_ok h ha))), seq_nx (drop_nx (callM_ok (aC_ok (vN_ok rfl) (aC1 (vN_ok rfl))) (name_ok h hx)))]
    refine ret_ok ?_
    rw [← onD_get]
    exact dget1_ok (callM_ok (aC_ok (vN_ok rfl) (aC1 (vN_ok rfl))) k1) (vN_ok rfl) (keyOk_fD _ _)
def cnd (a : Str) (fd : FD) (x : Str) : Option Nat := if x = a then some 0 else fget fd x
def relax2 (a : Str) (fd : FD) (e : Edge) : FD := match cnd a fd e.1 with
  | none => fd
  | some c => (relax e.1 c (fd, []) e).1
section
variable {E : List Edge} {a : Str} {names : List Str}
theorem Inv0.off {st : FD × WK} (I : Inv0 E a names st) : Inv0 E a names (st.1, []) := ⟨I.nd, I.nm, I.vb, (fun p hp => nomatch hp), I.sv, (fun p hp => nomatch hp)⟩
theorem cnd_ok {fd : FD} (I : Inv0 E a names (fd, [])) {x : Str} {c : Nat} (h : cnd a fd x = some c) : c ≤ 3 * fd.length ∧ ((x, c) = (a, 0) ∨ ∃ k, Walk E a k x c) := by
  unfold cnd at h
  by_cases q : x = a
  · rw [if_pos q] at h; cases h; exact ⟨by omega, .inl (by rw [q])⟩
  · rw [if_neg q] at h; exact ⟨I.vb x c h, .inr (I.sv x c h)⟩
theorem relax2_inv {fd : FD} {e : Edge} (I : Inv0 E a names (fd, [])) (K : EOk E names) (he : e ∈ E) :
    Inv0 E a names (relax2 a fd e, []) ∧ pot names (relax2 a fd e) ≤ pot names fd ∧ (pot names (relax2 a fd e) = pot names fd → relax2 a fd e = fd ∧ ∀ c, cnd a fd e.1 = some c → ∃ v, fget fd e.2.1 = some v ∧ v ≤ c + e.2.2) := by
  unfold relax2
  cases hc : cnd a fd e.1 with
  | none => exact ⟨I, Nat.le_refl _, fun _ => ⟨rfl, (fun c h => nomatch h)⟩⟩
  | some c =>
    obtain ⟨h1, h2⟩ := cnd_ok I hc
    obtain ⟨I1, _, m1, _, _, _, r1⟩ := relax_inv (here := e.1) (d := c) I he (K.to e he) (K.hi e he) h1 h2 K.nl
    have m1 : (relax e.1 c (fd, []) e).2.length + pot names (relax e.1 c (fd, []) e).1 ≤ 0 + pot names fd := m1
    refine ⟨I1.off, by simp only; omega, fun hp => ?_⟩
    have e0 : (relax e.1 c (fd, []) e).2.length = 0 := by simp only at hp; omega
    have e1 : relax e.1 c (fd, []) e = (fd, []) := by
      unfold relax at e0 ⊢
      by_cases q : (decide (e.1 = e.1) && better (fd, ([] : WK)).1 e.2.1 (c + e.2.2)) = true
      · rw [if_pos q] at e0; simp at e0
      · rw [if_neg q]
    simp only [e1] at r1 ⊢
    refine ⟨trivial, fun c' hc' => ?_⟩
    cases hc'
    exact r1 trivial
theorem round_inv (K : EOk E names) : ∀ (L : List Edge) (fd : FD), (∀ e ∈ L, e ∈ E) → Inv0 E a names (fd, []) → Inv0 E a names (L.foldl (relax2 a) fd, []) ∧ pot names (L.foldl (relax2 a) fd) ≤ pot names fd ∧ (pot names (L.foldl (relax2 a) fd) = pot names fd → L.foldl (relax2 a) fd = fd ∧ ∀ e ∈ L, ∀ c, cnd a fd e.1 = some c → ∃ v, fget fd e.2.1 = some v ∧ v ≤ c + e.2.2)
  | [], fd, _, I => ⟨I, Nat.le_refl _, fun _ => ⟨rfl, (fun e h => nomatch h)⟩⟩
  | e :: L, fd, hL, I => by
    obtain ⟨I1, p1, q1⟩ := relax2_inv I K (hL e List.mem_cons_self)
    obtain ⟨I2, p2, q2⟩ := round_inv K L (relax2 a fd e) (fun x hx => hL x (List.mem_cons_of_mem _ hx)) I1
    rw [List.foldl_cons]
    refine ⟨I2, by omega, fun hp => ?_⟩
    obtain ⟨e1, r1⟩ := q1 (by omega)
    rw [e1] at q2 hp ⊢
    obtain ⟨e2, r2⟩ := q2 (by omega)
    refine ⟨e2, fun x hx => ?_⟩
    rcases List.mem_cons.mp hx with rfl | hx
    · exact r1
    · exact r2 x hx
def itr (E : List Edge) (a : Str) : Nat → FD
  | 0 => []
  | n + 1 => E.foldl (relax2 a) (itr E a n)
theorem itr_inv (K : EOk E names) (ha : a ∈ names) : ∀ n, Inv0 E a names (itr E a n, [])
  | 0 => (start_ok (E := E) ha).1.off
  | n + 1 => (round_inv K E (itr E a n) (fun _ h => h) (itr_inv K ha n)).1
def Fix (E : List Edge) (a : Str) (fd : FD) : Prop := E.foldl (relax2 a) fd = fd ∧ ∀ e ∈ E, ∀ c, cnd a fd e.1 = some c → ∃ v, fget fd e.2.1 = some v ∧ v ≤ c + e.2.2
theorem itr_pot (K : EOk E names) (ha : a ∈ names) : ∀ n, Fix E a (itr E a n) ∨ pot names (itr E a n) + n ≤ 10 * names.length
  | 0 => .inr (by rw [itr, pot_nil]; omega)
  | n + 1 => by
    rcases itr_pot K ha n with h | h
    · refine .inl ?_
      rw [itr, h.1]; exact h
    · obtain ⟨_, p, q⟩ := round_inv K E (itr E a n) (fun _ h => h) (itr_inv K ha n)
      by_cases z : pot names (E.foldl (relax2 a) (itr E a n)) = pot names (itr E a n)
      · have := q z
        refine .inl ?_
        rw [itr, this.1]; exact this
      · refine .inr ?_
        rw [itr]; omega
theorem itr_fix (K : EOk E names) (ha : a ∈ names) : Fix E a (itr E a 30) := by
  rcases itr_pot K ha 30 with h | h
  · exact h
  · have := K.nl
    obtain ⟨_, p, q⟩ := round_inv K E (itr E a 30) (fun _ h => h) (itr_inv K ha 30)
    exact q (by omega)
theorem itr_least (K : EOk E names) (ha : a ∈ names) : Least E a (fget (itr E a 30)) := by
  have F := (itr_fix K ha).2
  have I := itr_inv K ha 30
  refine ⟨I.sv, fun y w h => ?_, fun x y w d h hx => ?_⟩
  · obtain ⟨v, h1, h2⟩ := F _ h 0 (by unfold cnd; rw [if_pos rfl])
    exact ⟨v, h1, by simpa using h2⟩
  · by_cases q : x = a
    · obtain ⟨v, h1, h2⟩ := F _ h 0 (by unfold cnd; rw [if_pos q])
      exact ⟨v, h1, by simp only at h2; omega⟩
    · exact F _ h d (by unfold cnd; rw [if_neg q]; exact hx)
end
end G
set_option Elab.async false
set_option linter.all false
set_option maxRecDepth 100000
set_option maxHeartbeats 1000000
namespace G
open PySem DL
local instance : DL.TabCtx := ⟨[]⟩
section
variable {many : Int} {m : Nat} {ss : List Sg} {st : List (List Nat)}
def ln0 (m : Nat) (ss : List Sg) (ld : Nat → Str → Option Nat) (st : List (List Nat)) (t i : Nat) : Nat := (lrow m ss ld t (stL m ss ld st t)).getD i 0
theorem ln0_eq {ld : Nat → Str → Option Nat} {t i : Nat} {s : Sg} (hs : ss[i]? = some s) : ln0 m ss ld st t i = (ld t s.name).getD (sem m s (hrd ss (stL m ss ld st t))).toNat := by
  unfold ln0 lrow
  rw [List.getD_eq_getElem?_getD, List.getElem?_map, hs]; rfl
theorem hist_lo {ld : Nat → Str → Option Nat} {b k : Nat} (hk : k < 3) : (histL m ss ld st b).getD k [] = (hist3 st).getD k [] := by
  unfold histL
  rw [List.getD_eq_getElem?_getD, List.getElem?_append_left (by unfold hist3; rw [List.length_map, List.length_range]; exact hk), List.getD_eq_getElem?_getD]
theorem hist_hi {ld : Nat → Str → Option Nat} {b k : Nat} (hk : k < b) : (histL m ss ld st b).getD (k + 3) [] = lrow m ss ld k (stL m ss ld st k) := by
  unfold histL
  have h3 : (hist3 st).length = 3 := by unfold hist3; rw [List.length_map, List.length_range]
  rw [List.getD_eq_getElem?_getD, List.getElem?_append_right (by rw [h3]; omega), h3, Nat.add_sub_cancel]
  unfold rowsL
  rw [List.getElem?_map, List.getElem?_range hk]; rfl
theorem far_law (hm : many = m) (h : Good many ss) (hst : GSt m ss.length st) {ld : Nat → Str → Option Nat} {beat : Nat} {a : Str} (hl : ∀ b x l, ld b x = some l → l < m ∧ b = beat ∧ x = a) {f : Str → Option Nat} (L : Least (waysE m ss) a f) : ∀ (t i : Nat) (s : Sg), ss[i]? = some s → ln0 m ss (fun _ _ => none) st t i ≠ ln0 m ss ld st t i → (t = beat ∧ s.name = a) ∨ ∃ v, f s.name = some v ∧ beat + v ≤ t := by
  intro t
  induction t using Nat.strongRecOn with
  | ind t ih =>
    intro i s hs hne
    cases hld : ld t s.name with
    | some l => exact .inl (hl _ _ _ hld).2
    | none =>
      have hsm := List.mem_of_getElem? hs
      have hl1 : ∀ b x l, ld b x = some l → l < m := fun b x l e => (hl b x l e).1
      have hl0 : ∀ (b : Nat) (x : Str) (l : Nat), (none : Option Nat) = some l → l < m := fun _ _ _ e => nomatch e
      rw [ln0_eq hs, ln0_eq hs, hld] at hne
      have hne : (sem m s (hrd ss (stL m ss (fun _ _ => none) st t))).toNat ≠ (sem m s (hrd ss (stL m ss ld st t))).toNat := hne
      have e1 := sem_hh hm h hst (ld := fun _ _ => none) hl0 t hsm
      have e2 := sem_hh hm h hst hl1 t hsm
      rw [← e1, ← e2, ← lean_sem hm h.m2 (h.sg s hsm) (fun e => hh_lt hm h hst (ld := fun _ _ => none) hl0 t e), ← lean_sem hm h.m2 (h.sg s hsm) (fun e => hh_lt hm h hst hl1 t e)] at hne
      obtain ⟨e, he, hd⟩ : ∃ e ∈ (leanS m s).ears, hh ss (histL m ss (fun _ _ => none) st t) t e ≠ hh ss (histL m ss ld st t) t e := by
        refine Classical.byContradiction fun hc => hne ?_
        have : ∀ e ∈ (leanS m s).ears, hh ss (histL m ss (fun _ _ => none) st t) t e = hh ss (histL m ss ld st t) t e := fun e he => Classical.byContradiction fun z => hc ⟨e, he, z⟩
        rw [sem_congr this]
      have hw : (e.1, s.name, e.2.toNat) ∈ waysE m ss := by
        unfold waysE
        refine List.mem_flatMap.mpr ⟨leanS m s, List.mem_map.mpr ⟨s, hsm, rfl⟩, List.mem_map.mpr ⟨e, he, by rw [lean_name]⟩⟩
      rw [lean_ears] at he
      obtain ⟨_, en, e1', e3⟩ := (h.sg s hsm).ear e (left_ears he)
      unfold hh at hd
      by_cases hk : t + 3 - e.2.toNat < 3
      · have : ((t : Int) + 3 - e.2).toNat = t + 3 - e.2.toNat := by omega
        rw [this, hist_lo hk, hist_lo hk] at hd
        exact absurd rfl hd
      · have : ((t : Int) + 3 - e.2).toNat = (t - e.2.toNat) + 3 := by omega
        rw [this, hist_hi (by omega), hist_hi (by omega)] at hd
        obtain ⟨s', hs', hn⟩ : ∃ s', ss[nOf ss e.1]? = some s' ∧ s'.name = e.1 := by
          have hlt := nOf_lt en
          refine ⟨ss[nOf ss e.1], List.getElem?_eq_getElem hlt, ?_⟩
          have := List.getElem_idxOf (x := e.1) (xs := ss.map (·.name)) (by rw [List.length_map]; exact hlt)
          rw [List.getElem_map] at this
          exact this
        rcases ih (t - e.2.toNat) (by omega) (nOf ss e.1) s' hs' hd with ⟨h1, h2⟩ | ⟨v, h1, h2⟩
        · rw [hn] at h2
          obtain ⟨v, h3, h4⟩ := L.one s.name e.2.toNat (by rw [← h2]; exact hw)
          exact .inr ⟨v, h3, by omega⟩
        · rw [hn] at h1
          obtain ⟨v', h3, h4⟩ := L.step e.1 s.name e.2.toNat v hw h1
          exact .inr ⟨v', h3, by omega⟩
theorem rowsV_L (N : Nat) : rowsV m ss st N = rowsL m ss (fun _ _ => none) st N := by
  unfold rowsV rowsL
  refine List.map_congr_left fun i _ => ?_
  rw [stL_none]
  unfold nxN nxt lrow
  rw [List.map_map]; rfl
theorem ix_rows {ld : Nat → Str → Option Nat} {N t : Nat} (ht : t < N) : gIx (.list ((rowsL m ss ld st N).map rowD)) (natD t) = some (rowD (lrow m ss ld t (stL m ss ld st t))) := by
  show atD _ ((t : Nat) : Int) = _
  rw [e_at, List.getElem?_map]
  unfold rowsL
  rw [List.getElem?_map, List.getElem?_range ht]; rfl
theorem ix_row {ld : Nat → Str → Option Nat} {t i : Nat} (hi : i < ss.length) : gIx (rowD (lrow m ss ld t (stL m ss ld st t))) (natD i) = some (natD (ln0 m ss ld st t i)) := by
  show atD _ ((i : Nat) : Int) = _
  rw [e_at, nat_at (by rw [lrow_len]; exact hi)]; rfl
theorem mulL1 (x : PyData) (b : Bool) : gMul (.list [x]) (.int (if b = true then 1 else 0)) = some (.list (if b = true then [x] else [])) := by
  cases b <;> rfl
def ChG (m : Nat) (ss : List Sg) (st : List (List Nat)) (ld : Nat → Str → Option Nat) (q : Nat × Str) : Prop := ∃ i s, ss[i]? = some s ∧ s.name = q.2 ∧ ln0 m ss (fun _ _ => none) st q.1 i ≠ ln0 m ss ld st q.1 i
def C9 (C D LD : PyData) (N : Nat) (A B : PyData) (F : List (Nat × Str)) (x7 x8 x9 : Sl) : Rho := [.sh C, .sh D, .sh LD, .sh (natD N), .sh A, .sh B, .sh (.list (F.map fun q => spotD q.1 q.2)), x7, x8, x9]
theorem chg_row {ld : Nat → Str → Option Nat} {N t : Nat} (ht : t < N) (C D LD : PyData) : ∀ (qs : List (Sg × Nat)) (F : List (Nat × Str)) (x8 x9 : Sl), (∀ q ∈ qs, ss[q.2]? = some q.1) → (∀ q ∈ F, ChG m ss st ld q) → F.length + qs.length ≤ 1000 →
    ∃ F' y8 y9, loopO (unT (gsC (setS 8) (gsC (setS 9) gsN))) b_changed_L1 (qs.map fun q => .tuple [.int (q.2 : Nat), .str q.1.name]) (C9 C D LD N (.list ((rowsL m ss (fun _ _ => none) st N).map rowD)) (.list ((rowsL m ss ld st N).map rowD)) F (.sh (natD t)) x8 x9) = .nx (C9 C D LD N (.list ((rowsL m ss (fun _ _ => none) st N).map rowD)) (.list ((rowsL m ss ld st N).map rowD)) F' (.sh (natD t)) y8 y9) ∧ (∀ q ∈ F', ChG m ss st ld q) ∧ F'.length ≤ F.length + qs.length
  | [], F, x8, x9, _, hF, _ => ⟨F, x8, x9, rfl, hF, Nat.le_refl _⟩
  | q :: qs, F, x8, x9, hq, hF, hl => by
    rw [List.length_cons] at hl
    have hs := hq q List.mem_cons_self
    have hi : q.2 < ss.length := (List.getElem?_eq_some_iff.mp hs).1
    have ne := gNe_nat (ln0 m ss (fun _ _ => none) st t q.2) (ln0 m ss ld st t q.2)
    have gi : gInt [.bool (!decide (ln0 m ss (fun _ _ => none) st t q.2 = ln0 m ss ld st t q.2))] = some (.int (if (!decide (ln0 m ss (fun _ _ => none) st t q.2 = ln0 m ss ld st t q.2)) = true then 1 else 0)) := by
      cases (!decide (ln0 m ss (fun _ _ => none) st t q.2 = ln0 m ss ld st t q.2)) <;> rfl
    have mu := mulL1 (spotD t q.1.name) (!decide (ln0 m ss (fun _ _ => none) st t q.2 = ln0 m ss ld st t q.2))
    obtain ⟨G, hG, gl, gc⟩ : ∃ G : List (Nat × Str), (if (!decide (ln0 m ss (fun _ _ => none) st t q.2 = ln0 m ss ld st t q.2)) = true then [spotD t q.1.name] else []) = G.map (fun q => spotD q.1 q.2) ∧ G.length ≤ 1 ∧ ∀ g ∈ G, ChG m ss st ld g := by
      by_cases hd : ln0 m ss (fun _ _ => none) st t q.2 = ln0 m ss ld st t q.2
      · exact ⟨[], by rw [decide_eq_true hd]; rfl, by simp, (fun g hg => nomatch hg)⟩
      · exact ⟨[(t, q.1.name)], by rw [decide_eq_false hd]; rfl, by simp, fun g hg => by rw [List.mem_singleton.mp hg]; exact ⟨q.2, q.1, hs, rfl, hd⟩⟩
    rw [hG] at mu
    have ad : gAdd (.list (F.map fun q => spotD q.1 q.2)) (.list (G.map fun q => spotD q.1 q.2)) = some (.list ((F ++ G).map fun q => spotD q.1 q.2)) := by
      rw [gAdd_l (by rw [List.length_map, List.length_map]; omega), List.map_append]
    have bd : b_changed_L1 (C9 C D LD N (.list ((rowsL m ss (fun _ _ => none) st N).map rowD)) (.list ((rowsL m ss ld st N).map rowD)) F (.sh (natD t)) (.sh (natD q.2)) (.sh (.str q.1.name))) = .nx (C9 C D LD N (.list ((rowsL m ss (fun _ _ => none) st N).map rowD)) (.list ((rowsL m ss ld st N).map rowD)) (F ++ G) (.sh (natD t)) (.sh (natD q.2)) (.sh (.str q.1.name))) := by
      rw [b_changed_L1]
      exact asg_gm (op2_ok (vN_ok rfl) (op2_ok (opA_ok (aC1 (opA_ok (aC_ok (vN_ok rfl) (aC1 (vN_ok rfl))) rfl)) rfl) (opA_ok (aC1 (op2_ok (op2_ok (op2_ok (vN_ok rfl) (vN_ok rfl) (ix_rows ht)) (vN_ok rfl) (ix_row hi)) (op2_ok (op2_ok (vN_ok rfl) (vN_ok rfl) (ix_rows ht)) (vN_ok rfl) (ix_row hi)) ne)) gi) mu) ad) rfl
    obtain ⟨F', y8, y9, k1, k2, k3⟩ := chg_row ht C D LD qs (F ++ G) (.sh (natD q.2)) (.sh (.str q.1.name)) (fun p hp => hq p (List.mem_cons_of_mem _ hp)) (fun p hp => by
      rcases List.mem_append.mp hp with hp | hp
      · exact hF p hp
      · exact gc p hp) (by rw [List.length_append]; omega)
    refine ⟨F', y8, y9, ?_, k2, by rw [List.length_append] at k3; rw [List.length_cons]; omega⟩
    have g1 : unT (gsC (setS 8) (gsC (setS 9) gsN)) (.tuple [.int (q.2 : Nat), .str q.1.name]) (C9 C D LD N (.list ((rowsL m ss (fun _ _ => none) st N).map rowD)) (.list ((rowsL m ss ld st N).map rowD)) F (.sh (natD t)) x8 x9) = .ok (C9 C D LD N (.list ((rowsL m ss (fun _ _ => none) st N).map rowD)) (.list ((rowsL m ss ld st N).map rowD)) F (.sh (natD t)) (.sh (natD q.2)) (.sh (.str q.1.name))) := rfl
    rw [List.map_cons, loopO, g1]
    simp only [bd]
    exact k1
theorem changed_ok (hm : many = m) (h : Good many ss) (hst : GSt m ss.length st) {xs : List (Nat × Str × Nat)} (hx : GLd m (ss.map (·.name)) xs) {N : Nat} (hN : N ≤ 100) : ∃ F : List (Nat × Str), m_changed [chD many ss, stD st, .dict (xs.map spotP), natD N] = .ok (.list (F.map fun q => spotD q.1 q.2)) ∧ F.length ≤ 1000 ∧ ∀ q ∈ F, ChG m ss st (lookL xs) q := by
  have h4 := h.l4
  have k1 := need_both_ok hm h hst
  have k2 := need_leads_ok hm h hx
  have k3 := need_beats_ok (N := N) (by omega)
  have k4 := led_rows_ok hm h hst hx.lt (N := N) (by omega)
  have k5 := rows_of_ok hm h hst (N := ((N : Nat) : Int)) (by omega) (by omega)
  rw [Int.toNat_natCast, rowsV_L] at k5
  have k5 : m_rows_of [chD many ss, stD st, natD N] = _ := k5
  have k6 := all_names_ok (many := many) (ss := ss) (by rw [e_LIM]; omega)
  have en : gEnum [.list (ss.map fun s => .str s.name)] = some (ss.zipIdx.map fun q => .tuple [.int (q.2 : Nat), .str q.1.name]) := by
    show some (enumD 0 (ss.map fun s => .str s.name)) = _
    rw [enum_map]
  have hrg : rg1 [natD N] = some (rangeD 0 N) := by
    have := rg1_int (r := ((N : Nat) : Int)) (by omega) (by omega : ((N : Nat) : Int) ≤ 1000000)
    rw [Int.toNat_natCast] at this; exact this
  have row : ∀ (F : List (Nat × Str)) (t : Nat) (x8 x9 : Sl), t < N → (∀ q ∈ F, ChG m ss st (lookL xs) q) → F.length ≤ 900 → ∃ F' y8 y9, b_changed_L2 (C9 (chD many ss) (stD st) (.dict (xs.map spotP)) N (.list ((rowsL m ss (fun _ _ => none) st N).map rowD)) (.list ((rowsL m ss (lookL xs) st N).map rowD)) F (.sh (natD t)) x8 x9) = .nx (C9 (chD many ss) (stD st) (.dict (xs.map spotP)) N (.list ((rowsL m ss (fun _ _ => none) st N).map rowD)) (.list ((rowsL m ss (lookL xs) st N).map rowD)) F' (.sh (natD t)) y8 y9) ∧ (∀ q ∈ F', ChG m ss st (lookL xs) q) ∧ F'.length ≤ F.length + 4 := fun F t x8 x9 ht hF hl => by
    obtain ⟨F', y8, y9, r1, r2, r3⟩ := chg_row (ld := lookL xs) ht (chD many ss) (stD st) (.dict (xs.map spotP)) ss.zipIdx F x8 x9 (fun q hq => List.mem_zipIdx_iff_getElem?.mp hq) hF (by rw [List.length_zipIdx]; omega)
    refine ⟨F', y8, y9, ?_, r2, by rw [List.length_zipIdx] at r3; omega⟩
    rw [b_changed_L2]
    exact (for_ok (opI_ok (aC1 (callM_ok (aC1 (vN_ok rfl)) k6)) en)).trans r1
  generalize chD many ss = C at *
  generalize stD st = D at *
  obtain ⟨ρ', h1, F, x7, x8, x9, rfl, hF, hl⟩ := loop_inv (g := setS 7) (fb := b_changed_L2) (ds := rangeD 0 N) (fun i ρ => ∃ (F : List (Nat × Str)) (x7 x8 x9 : Sl), ρ = C9 C D (.dict (xs.map spotP)) N (.list ((rowsL m ss (fun _ _ => none) st N).map rowD)) (.list ((rowsL m ss (lookL xs) st N).map rowD)) F x7 x8 x9 ∧ (∀ q ∈ F, ChG m ss st (lookL xs) q) ∧ F.length ≤ 4 * i) (fun i d ρ hd hI => by
    obtain ⟨F, x7, x8, x9, rfl, hF, hl⟩ := hI
    have hi : i < N := by have := (List.getElem?_eq_some_iff.mp hd).1; simpa [rangeD] using this
    have ed : d = natD i := by
      rw [rangeD_map, List.getElem?_map, List.getElem?_range hi] at hd
      exact (Option.some.inj hd).symm
    subst ed
    obtain ⟨F', y8, y9, r1, r2, r3⟩ := row F i x8 x9 hi hF (by omega)
    exact ⟨_, _, rfl, r1, F', _, y8, y9, rfl, r2, by omega⟩) (ρ := C9 C D (.dict (xs.map spotP)) N (.list ((rowsL m ss (fun _ _ => none) st N).map rowD)) (.list ((rowsL m ss (lookL xs) st N).map rowD)) [] .no .no .no) ⟨[], .no, .no, .no, rfl, (fun q hq => nomatch hq), by simp⟩
  have hlr : (rangeD 0 N).length = N := by simp [rangeD]
  rw [hlr] at hl
  refine ⟨F, ?_, by omega, hF⟩
  refine fn_rt' (ρ0 := [.sh C, .sh D, .sh (.dict (xs.map spotP)), .sh (natD N), .no, .no, .no, .no, .no, .no]) rfl rfl (ρ' := C9 C D (.dict (xs.map spotP)) N (.list ((rowsL m ss (fun _ _ => none) st N).map rowD)) (.list ((rowsL m ss (lookL xs) st N).map rowD)) F x7 x8 x9) ?_
  rw [b_changed, seq_nx (drop_nx (callM_ok (aC_ok (vN_ok rfl) (aC1 (vN_ok rfl))) k1)), seq_nx (drop_nx (callM_ok (aC_ok (vN_ok rfl) (aC1 (vN_ok rfl))) k2)), seq_nx (drop_nx (callM_ok (aC1 (vN_ok rfl)) k3))]
  have p1 : par2 4 5 (aC (callM m_rows_of (aC (vN 0) (aC (vN 1) (aC (vN 3) aN)))) (aC (op2 gIx (callM m_led_rows (aC (vN 0) (aC (vN 1) (aC (vN 2) (aC (vN 3) aN))))) (cD (.int 0))) aN)) [.sh C, .sh D, .sh (.dict (xs.map spotP)), .sh (natD N), .no, .no, .no, .no, .no, .no] = .nx [.sh C, .sh D, .sh (.dict (xs.map spotP)), .sh (natD N), .sh (.list ((rowsL m ss (fun _ _ => none) st N).map rowD)), .sh (.list ((rowsL m ss (lookL xs) st N).map rowD)), .no, .no, .no, .no] := by
    have p0 : aC (callM m_rows_of (aC (vN 0) (aC (vN 1) (aC (vN 3) aN)))) (aC (op2 gIx (callM m_led_rows (aC (vN 0) (aC (vN 1) (aC (vN 2) (aC (vN 3) aN))))) (cD (.int 0))) aN) [.sh C, .sh D, .sh (.dict (xs.map spotP)), .sh (natD N), .no, .no, .no, .no, .no, .no] = .ok ([.list ((rowsL m ss (fun _ _ => none) st N).map rowD), .list ((rowsL m ss (lookL xs) st N).map rowD)], [.sh C, .sh D, .sh (.dict (xs.map spotP)), .sh (natD N), .no, .no, .no, .no, .no, .no]) := (aC_ok (callM_ok (aC_ok (vN_ok rfl) (aC_ok (vN_ok rfl) (aC1 (vN_ok rfl)))) k5) (aC1 (op2_ok (callM_ok (aC_ok (vN_ok rfl) (aC_ok (vN_ok rfl) (aC_ok (vN_ok rfl) (aC1 (vN_ok rfl))))) k4) cD_ok rfl)))
    exact par2_ok p0 (by simp) (by simp)
  have p2 : asgO (opA gLstD aN) (setS 6) [.sh C, .sh D, .sh (.dict (xs.map spotP)), .sh (natD N), .sh (.list ((rowsL m ss (fun _ _ => none) st N).map rowD)), .sh (.list ((rowsL m ss (lookL xs) st N).map rowD)), .no, .no, .no, .no] = .nx (C9 C D (.dict (xs.map spotP)) N (.list ((rowsL m ss (fun _ _ => none) st N).map rowD)) (.list ((rowsL m ss (lookL xs) st N).map rowD)) [] .no .no .no) := asg_gm (opA_ok aN_ok rfl) rfl
  rw [seq_nx p1, seq_nx p2, seq_nx ((for_ok (opI_ok (aC1 (vN_ok rfl)) hrg)).trans h1)]
  exact ret_ok (vN_ok rfl)
end
end G
set_option Elab.async false
set_option linter.all false
set_option maxRecDepth 100000
set_option maxHeartbeats 1000000
namespace G
open PySem DL
local instance : DL.TabCtx := ⟨[]⟩
def W8 (dc x2 x3 x4 : Sl) (a : Str) (fd : FD) (x7 x8 x9 x10 x11 x12 x13 x14 x15 x16 x17 x18 x19 x20 : Sl) : Rho := [.no, dc, x2, x3, x4, .sh (.str a), .ow (.dict (fD fd)), x7, x8, x9, x10, x11, x12, x13, x14, x15, x16, x17, x18, x19, x20]
theorem not_none (o : Option Nat) : gIsNot (onD o) .none = some (.bool o.isSome) := by cases o <;> rfl
theorem min_list {a : Str} {fd : FD} {x : Str} {c : Nat} (h : cnd a fd x = some c) : gMinL [.list ((([if x = a then some 0 else none, fget fd x] : List (Option Nat)).filter Option.isSome).map onD)] = some (natD c) := by
  unfold cnd at h
  by_cases q : x = a
  · rw [if_pos q] at h ⊢
    cases h
    cases fget fd x with
    | none => rfl
    | some d =>
      show some (PyData.int (min ((0 : Nat) : Int) ((d : Nat) : Int))) = _
      have : min ((0 : Nat) : Int) ((d : Nat) : Int) = ((0 : Nat) : Int) := by omega
      rw [this]
  · rw [if_neg q] at h ⊢
    rw [h]; rfl
theorem none_list {a : Str} {fd : FD} {x : Str} (h : cnd a fd x = none) : (([if x = a then some 0 else none, fget fd x] : List (Option Nat)).filter Option.isSome).map onD = [] := by
  unfold cnd at h
  by_cases q : x = a
  · rw [if_pos q] at h; cases h
  · rw [if_neg q] at h ⊢; rw [h]; rfl
theorem some_list {a : Str} {fd : FD} {x : Str} {c : Nat} (h : cnd a fd x = some c) : (([if x = a then some 0 else none, fget fd x] : List (Option Nat)).filter Option.isSome).map onD ≠ [] := by
  unfold cnd at h
  by_cases q : x = a
  · rw [if_pos q] at h ⊢
    simp
  · rw [if_neg q] at h ⊢; rw [h]; simp
theorem onD_P (o : Option Nat) : P 0 (onD o) := by cases o with
  | none => exact .none
  | some d => exact .int _
theorem edge_run {a : Str} {fd : FD} {e : Edge} (l1 : (PyData.str e.1).canLay0 = true) (la : (PyData.str a).canLay0 = true) (hf : fd.length ≤ 1000) (hc : ∀ c, cnd a fd e.1 = some c → c + e.2.2 < 99) (dc x2 x3 x4 x7 x8 x9 x10 x11 x12 x14 x15 x18 x19 x20 : Sl) (h20 : isOw (some x20) = false) :
    ∃ y18 y19, b_law_L1 (W8 dc x2 x3 x4 a fd x7 x8 x9 x10 x11 x12 (.sh (.str e.2.1)) x14 x15 (.sh (.str e.1)) (.sh (natD e.2.2)) x18 x19 x20) = .nx (W8 dc x2 x3 x4 a (relax2 a fd e) x7 x8 x9 x10 x11 x12 (.sh (.str e.2.1)) x14 x15 (.sh (.str e.1)) (.sh (natD e.2.2)) y18 y19 x20) := by
  generalize hS : (([if e.1 = a then some 0 else none, fget fd e.1] : List (Option Nat)).filter Option.isSome).map onD = S
  refine ⟨.sh (onD (if e.1 = a then some 0 else none)), .sh (.list S), ?_⟩
  have ge := gEq_tx l1 la
  generalize hB : onD (if e.1 = a then some 0 else none) = B
  have v1 : ifV (tst (op2 gEq (vN 16) (vN 5))) (cD (.int 0)) (cD .none) (W8 dc x2 x3 x4 a fd x7 x8 x9 x10 x11 x12 (.sh (.str e.2.1)) x14 x15 (.sh (.str e.1)) (.sh (natD e.2.2)) x18 x19 x20) = .ok (B, W8 dc x2 x3 x4 a fd x7 x8 x9 x10 x11 x12 (.sh (.str e.2.1)) x14 x15 (.sh (.str e.1)) (.sh (natD e.2.2)) x18 x19 x20) := by
    rw [← hB]
    by_cases q : e.1 = a
    · rw [if_pos q]
      rw [decide_eq_true q] at ge
      exact (ifV_t (tst_ok (op2_ok (vN_ok rfl) (vN_ok rfl) ge))).trans cD_ok
    · rw [if_neg q]
      rw [decide_eq_false q] at ge
      exact (ifV_f (tst_ok (op2_ok (vN_ok rfl) (vN_ok rfl) ge))).trans cD_ok
  have s1 : asgO (ifV (tst (op2 gEq (vN 16) (vN 5))) (cD (.int 0)) (cD .none)) (setS 18) (W8 dc x2 x3 x4 a fd x7 x8 x9 x10 x11 x12 (.sh (.str e.2.1)) x14 x15 (.sh (.str e.1)) (.sh (natD e.2.2)) x18 x19 x20) = .nx (W8 dc x2 x3 x4 a fd x7 x8 x9 x10 x11 x12 (.sh (.str e.2.1)) x14 x15 (.sh (.str e.1)) (.sh (natD e.2.2)) (.sh B) x19 x20) := asg_gm v1 rfl
  -- some
  have h20' : isOw (some (demSl x20)) = false := by cases x20 <;> first | rfl | cases h20
  have lc := lc_filt (vs := [20]) (a := seqI (opA gLstD (aC (vN 18) (aC (dget1 (vN 6) (vN 16)) aN)))) (g := setS 20) (t := tst (op2 gIsNot (vN 20) (cD .none))) (e := vN 20) (ρ := demR false (W8 dc x2 x3 x4 a fd x7 x8 x9 x10 x11 x12 (.sh (.str e.2.1)) x14 x15 (.sh (.str e.1)) (.sh (natD e.2.2)) (.sh B) x19 x20)) ([if e.1 = a then some 0 else none, fget fd e.1] : List (Option Nat)) onD onD Option.isSome (by
      refine seqI_l ?_
      rw [List.map_cons, List.map_cons, hB, ← onD_get]
      exact opA_ok (aC_ok (vN_ok rfl) (aC1 (dget1_ok (vN_ok rfl) (vN_ok rfl) (keyOk_fD _ _)))) rfl) (by
      show (isOw (some (demSl x20)) || false) = false
      rw [h20']; rfl) (by rw [e_LIM]; simp) fun o _ => ⟨[.no, demSl dc, demSl x2, demSl x3, demSl x4, .sh (.str a), .sh (.dict (fD fd)), demSl x7, demSl x8, demSl x9, demSl x10, demSl x11, demSl x12, .sh (.str e.2.1), demSl x14, demSl x15, .sh (.str e.1), .sh (natD e.2.2), .sh B, demSl x19, .sh (onD o)], rfl, tst_ok (op2_ok (vN_ok rfl) cD_ok (not_none o)), fun _ => vN_ok rfl, rfl⟩
  rw [hS] at lc
  have im : immC (.list S) = true := by
    rw [← hS]
    exact imm_list fun o => by cases o <;> rfl
  have s2 : asgO (brwF false (lcM [20] (seqI (opA gLstD (aC (vN 18) (aC (dget1 (vN 6) (vN 16)) aN)))) (setS 20) (tst (op2 gIsNot (vN 20) (cD .none))) (vN 20))) (setS 19) (W8 dc x2 x3 x4 a fd x7 x8 x9 x10 x11 x12 (.sh (.str e.2.1)) x14 x15 (.sh (.str e.1)) (.sh (natD e.2.2)) (.sh B) x19 x20) = .nx (W8 dc x2 x3 x4 a fd x7 x8 x9 x10 x11 x12 (.sh (.str e.2.1)) x14 x15 (.sh (.str e.1)) (.sh (natD e.2.2)) (.sh B) (.sh (.list S)) x20) := asg_gm (brwF_go rfl lc im rfl) rfl
  rw [b_law_L1, seq_nx s1, seq_nx s2]
  have PS : P 1 (.list S) := by
    rw [← hS]
    exact .list fun x hx => by
      obtain ⟨o, _, rfl⟩ := List.mem_map.mp hx
      exact onD_P o
  have ne : gNe (.list S) (.list []) = some (.bool (!decide (S = []))) := gNe_P PS (.list (k := 0) (xs := []) (fun x hx => by cases hx)) _ (by simp)
  have t1 : tst (op2 gNe (vN 19) (opA gLstD aN)) (demR false (W8 dc x2 x3 x4 a fd x7 x8 x9 x10 x11 x12 (.sh (.str e.2.1)) x14 x15 (.sh (.str e.1)) (.sh (natD e.2.2)) (.sh B) (.sh (.list S)) x20)) = .ok (!decide (S = []), demR false (W8 dc x2 x3 x4 a fd x7 x8 x9 x10 x11 x12 (.sh (.str e.2.1)) x14 x15 (.sh (.str e.1)) (.sh (natD e.2.2)) (.sh B) (.sh (.list S)) x20)) := tst_ok (op2_ok (vN_ok rfl) (opA_ok aN_ok rfl) ne)
  unfold relax2
  cases hcd : cnd a fd e.1 with
  | none =>
    have : S = [] := by rw [← hS]; exact none_list hcd
    rw [decide_eq_true this] at t1
    rw [ifO_ok (brwT_ok rfl (andT_f t1) rfl), if_neg (by decide)]
    rfl
  | some c =>
    have : S ≠ [] := by rw [← hS]; exact some_list hcd
    rw [decide_eq_false this] at t1
    have mn := min_list hcd
    rw [hS] at mn
    have add : gAdd (natD c) (natD e.2.2) = some (natD (c + e.2.2)) := by
      show some (PyData.int (((c : Nat) : Int) + ((e.2.2 : Nat) : Int))) = _
      rw [← Int.natCast_add]
    have hlt := hc c hcd
    have gd : (dlook (fD fd) (.str e.2.1)).getD (.int 99) = natD ((fget fd e.2.1).getD 99) := by
      rw [dlook_fD]; cases fget fd e.2.1 <;> rfl
    have bt : better fd e.2.1 (c + e.2.2) = decide (c + e.2.2 < (fget fd e.2.1).getD 99) := by
      unfold better
      cases fget fd e.2.1 with
      | none => rw [Option.getD_none, decide_eq_true hlt]
      | some u => rfl
    have t2 : tst (op2 gLt (op2 gAdd (opA gMinL (aC (vN 19) aN)) (vN 17)) (dget2 (vN 6) (vN 13) (cD (.int 99)))) (demR false (W8 dc x2 x3 x4 a fd x7 x8 x9 x10 x11 x12 (.sh (.str e.2.1)) x14 x15 (.sh (.str e.1)) (.sh (natD e.2.2)) (.sh B) (.sh (.list S)) x20)) = .ok (better fd e.2.1 (c + e.2.2), demR false (W8 dc x2 x3 x4 a fd x7 x8 x9 x10 x11 x12 (.sh (.str e.2.1)) x14 x15 (.sh (.str e.1)) (.sh (natD e.2.2)) (.sh B) (.sh (.list S)) x20)) := by
      rw [bt]
      have d2 := dget2_ok (a := vN 6) (b := vN 13) (c := cD (.int 99)) (ρ := demR false (W8 dc x2 x3 x4 a fd x7 x8 x9 x10 x11 x12 (.sh (.str e.2.1)) x14 x15 (.sh (.str e.1)) (.sh (natD e.2.2)) (.sh B) (.sh (.list S)) x20)) (ps := fD fd) (k := .str e.2.1) (vN_ok rfl) (vN_ok rfl) cD_ok (keyOk_fD _ _)
      rw [gd] at d2
      exact tst_ok (op2_ok (op2_ok (opA_ok (aC1 (vN_ok rfl)) mn) (vN_ok rfl) add) d2 (lt_nn _ _))
    rw [ifO_ok (brwT_ok rfl (andT_t t1 t2) rfl)]
    have rl : relax e.1 c (fd, []) e = if better fd e.2.1 (c + e.2.2) = true then (fput fd e.2.1 (c + e.2.2), [(e.2.1, c + e.2.2)]) else (fd, []) := by
      unfold relax
      rw [decide_eq_true rfl, Bool.true_and]; rfl
    simp only [rl]
    by_cases q : better fd e.2.1 (c + e.2.2) = true
    · rw [if_pos q, if_pos q]
      have ds := dset_ok (i := 6) (a := op2 gAdd (opA gMinL (aC (vN 19) aN)) (vN 17)) (b := vN 13) (ρ := W8 dc x2 x3 x4 a fd x7 x8 x9 x10 x11 x12 (.sh (.str e.2.1)) x14 x15 (.sh (.str e.1)) (.sh (natD e.2.2)) (.sh B) (.sh (.list S)) x20) (op2_ok (opA_ok (aC1 (vN_ok rfl)) mn) (vN_ok rfl) add) rfl (vN_ok (i := 13) (d := .str e.2.1) rfl) rfl (keyOk_fD _ _) (by unfold fD; rw [List.length_map]; omega)
      rw [dput_fD] at ds
      exact ds
    · rw [if_neg q, if_neg q]; rfl
section
variable {E : List Edge} {a : Str} {names : List Str}
theorem cnd_top (K : EOk E names) {fd : FD} (I : Inv0 E a names (fd, [])) {e : Edge} (he : e ∈ E) (c : Nat) (h : cnd a fd e.1 = some c) : c + e.2.2 < 99 := by
  have h1 := (cnd_ok I h).1
  have h2 := I.len
  have h3 := K.hi e he
  have h4 := K.nl
  simp only at h2
  omega
theorem ears_run (K : EOk E names) (la : (PyData.str a).canLay0 = true) (dc x2 x3 x4 x7 x8 x9 x10 x11 x12 x14 x15 x20 : Sl) (h20 : isOw (some x20) = false) (y : Str) : ∀ (es : List (Str × Int)) (fd : FD) (x16 x17 x18 x19 : Sl), (∀ e ∈ es, 0 ≤ e.2) → (∀ e ∈ es, (e.1, y, e.2.toNat) ∈ E) → Inv0 E a names (fd, []) →
    ∃ y16 y17 y18 y19, loopO (unT (gsC (setS 16) (gsC (setS 17) gsN))) b_law_L1 (es.map siD) (W8 dc x2 x3 x4 a fd x7 x8 x9 x10 x11 x12 (.sh (.str y)) x14 x15 x16 x17 x18 x19 x20) = .nx (W8 dc x2 x3 x4 a ((es.map fun e => (e.1, y, e.2.toNat)).foldl (relax2 a) fd) x7 x8 x9 x10 x11 x12 (.sh (.str y)) x14 x15 y16 y17 y18 y19 x20)
  | [], fd, x16, x17, x18, x19, _, _, _ => ⟨x16, x17, x18, x19, rfl⟩
  | e :: es, fd, x16, x17, x18, x19, h0, hE, I => by
    have he := hE e List.mem_cons_self
    have e0 := h0 e List.mem_cons_self
    obtain ⟨z18, z19, hr⟩ := edge_run (a := a) (fd := fd) (e := (e.1, y, e.2.toNat)) (K.lay _ (K.fr _ he)) la (by have := I.len; have := K.nl; simp only at *; omega) (cnd_top K I he) dc x2 x3 x4 x7 x8 x9 x10 x11 x12 x14 x15 x18 x19 x20 h20
    obtain ⟨y16, y17, y18, y19, k⟩ := ears_run K la dc x2 x3 x4 x7 x8 x9 x10 x11 x12 x14 x15 x20 h20 y es (relax2 a fd (e.1, y, e.2.toNat)) (.sh (.str e.1)) (.sh (natD e.2.toNat)) z18 z19 (fun x hx => h0 x (List.mem_cons_of_mem _ hx)) (fun x hx => hE x (List.mem_cons_of_mem _ hx)) (relax2_inv I K he).1
    refine ⟨y16, y17, y18, y19, ?_⟩
    have g1 : unT (gsC (setS 16) (gsC (setS 17) gsN)) (siD e) (W8 dc x2 x3 x4 a fd x7 x8 x9 x10 x11 x12 (.sh (.str y)) x14 x15 x16 x17 x18 x19 x20) = .ok (W8 dc x2 x3 x4 a fd x7 x8 x9 x10 x11 x12 (.sh (.str y)) x14 x15 (.sh (.str e.1)) (.sh (natD e.2.toNat)) x18 x19 x20) := by
      have : natD e.2.toNat = .int e.2 := by unfold natD; rw [Int.toNat_of_nonneg e0]
      rw [this]; rfl
    rw [List.map_cons, loopO, g1]
    simp only [hr]
    rw [k]; rfl
theorem sgs_run (K : EOk E names) (la : (PyData.str a).canLay0 = true) (dc x2 x3 x4 x7 x8 x9 x10 x11 x12 x20 : Sl) (h20 : isOw (some x20) = false) : ∀ (ls : List Sg) (fd : FD) (x13 x14 x15 x16 x17 x18 x19 : Sl), (∀ s ∈ ls, ∀ e ∈ s.ears, 0 ≤ e.2) → (∀ s ∈ ls, ∀ e ∈ s.ears, (e.1, s.name, e.2.toNat) ∈ E) → Inv0 E a names (fd, []) →
    ∃ y13 y14 y15 y16 y17 y18 y19, loopO (unT (gsC (setS 13) (gsC (setS 14) (gsC (setS 15) gsN)))) b_law_L2 (ls.map Sg.d) (W8 dc x2 x3 x4 a fd x7 x8 x9 x10 x11 x12 x13 x14 x15 x16 x17 x18 x19 x20) = .nx (W8 dc x2 x3 x4 a ((ls.flatMap fun s => s.ears.map fun e => (e.1, s.name, e.2.toNat)).foldl (relax2 a) fd) x7 x8 x9 x10 x11 x12 y13 y14 y15 y16 y17 y18 y19 x20)
  | [], fd, x13, x14, x15, x16, x17, x18, x19, _, _, _ => ⟨x13, x14, x15, x16, x17, x18, x19, rfl⟩
  | s :: ls, fd, x13, x14, x15, x16, x17, x18, x19, h0, hE, I => by
    obtain ⟨z16, z17, z18, z19, hr⟩ := ears_run K la dc x2 x3 x4 x7 x8 x9 x10 x11 x12 (.sh (.tuple (s.ears.map siD))) (.sh (.tuple (s.tab.map .int))) x20 h20 s.name s.ears fd x16 x17 x18 x19 (h0 s List.mem_cons_self) (hE s List.mem_cons_self) I
    have I1 := (round_inv K (s.ears.map fun e => (e.1, s.name, e.2.toNat)) fd (fun x hx => by
      obtain ⟨e, he, rfl⟩ := List.mem_map.mp hx
      exact hE s List.mem_cons_self e he) I).1
    obtain ⟨y13, y14, y15, y16, y17, y18, y19, k⟩ := sgs_run K la dc x2 x3 x4 x7 x8 x9 x10 x11 x12 x20 h20 ls _ (.sh (.str s.name)) (.sh (.tuple (s.ears.map siD))) (.sh (.tuple (s.tab.map .int))) z16 z17 z18 z19 (fun x hx => h0 x (List.mem_cons_of_mem _ hx)) (fun x hx => hE x (List.mem_cons_of_mem _ hx)) I1
    refine ⟨y13, y14, y15, y16, y17, y18, y19, ?_⟩
    have g1 : unT (gsC (setS 13) (gsC (setS 14) (gsC (setS 15) gsN))) s.d (W8 dc x2 x3 x4 a fd x7 x8 x9 x10 x11 x12 x13 x14 x15 x16 x17 x18 x19 x20) = .ok (W8 dc x2 x3 x4 a fd x7 x8 x9 x10 x11 x12 (.sh (.str s.name)) (.sh (.tuple (s.ears.map siD))) (.sh (.tuple (s.tab.map .int))) x16 x17 x18 x19 x20) := rfl
    have b1 : b_law_L2 (W8 dc x2 x3 x4 a fd x7 x8 x9 x10 x11 x12 (.sh (.str s.name)) (.sh (.tuple (s.ears.map siD))) (.sh (.tuple (s.tab.map .int))) x16 x17 x18 x19 x20) = .nx (W8 dc x2 x3 x4 a ((s.ears.map fun e => (e.1, s.name, e.2.toNat)).foldl (relax2 a) fd) x7 x8 x9 x10 x11 x12 (.sh (.str s.name)) (.sh (.tuple (s.ears.map siD))) (.sh (.tuple (s.tab.map .int))) z16 z17 z18 z19 x20) := by
      rw [b_law_L2]
      exact (for_ok (seqI_t (vN_ok rfl))).trans hr
    rw [List.map_cons, loopO, g1]
    simp only [b1]
    rw [k, List.flatMap_cons, List.foldl_append]
end
end G
set_option Elab.async false
set_option linter.all false
set_option maxRecDepth 100000
set_option maxHeartbeats 1000000
namespace G
open PySem DL
local instance : DL.TabCtx := ⟨[]⟩
theorem isort_eq {a b : List Str} (h : a.Perm b) : SrtQ.isort SrtQ.ltS a = SrtQ.isort SrtQ.ltS b := by
  refine SrtQ.perm_uniq SrtQ.swo_ltS (fun x y h1 h2 => SrtQ.ltS_tri h1 h2) (SrtQ.isort_srtd SrtQ.swo_ltS a) (SrtQ.isort_srtd SrtQ.swo_ltS b) ?_
  exact (SrtQ.isort_perm a).trans (h.trans (SrtQ.isort_perm b).symm)
theorem P_spot {k b : Nat} {x : Str} (h : (PyData.str x).canLay0 = true) : P (k + 1) (spotD b x) := .tuple fun y hy => by
  simp at hy
  rcases hy with rfl | rfl
  · exact .int _
  · exact .str h
theorem spotD_inj {b b' : Nat} {x x' : Str} : spotD b x = spotD b' x' ↔ (b = b' ∧ x = x') := by
  unfold spotD
  constructor
  · intro h
    injection h with h
    injection h with h1 h2
    injection h2 with h2 _
    injection h2 with h2
    exact ⟨natD_inj.mp h1, h2⟩
  · rintro ⟨rfl, rfl⟩; rfl
section
variable {many : Int} {m : Nat} {ss : List Sg}
theorem one_run (hm : many = m) (h : Good many ss) (hl : ss.length ≤ 3) {a : Str} (ha : a ∈ ss.map (·.name)) (d : Int × Int) (x6 x7 x8 x9 x10 x11 x12 x13 x14 x15 x16 x17 x18 x19 x20 : Sl) (h20 : isOw (some x20) = false) :
    ∃ d' y6 y7 y8 y9 y10 y11 y12 y13 y14 y15 y16 y17 y18 y19, b_law_L6 [.no, .ow (dcD d), .sh (chD many ss), .sh (.list (ss.map fun s => .str s.name)), .sh (chD many (ss.map (leanS m))), .sh (.str a), x6, x7, x8, x9, x10, x11, x12, x13, x14, x15, x16, x17, x18, x19, x20] = .nx [.no, .ow (dcD d'), .sh (chD many ss), .sh (.list (ss.map fun s => .str s.name)), .sh (chD many (ss.map (leanS m))), .sh (.str a), y6, y7, y8, y9, y10, y11, y12, y13, y14, y15, y16, y17, y18, y19, x20] := by
  have K := ways_ok hm h hl
  have la : (PyData.str a).canLay0 = true := K.lay a ha
  have m2 := h.m2
  have m4 := h.m4
  obtain ⟨fd0, L0, nd0, sub0, rch, soon⟩ := soon_ok hm h hl ha
  have L1 := itr_least K ha
  have I1 := itr_inv K ha 30
  have same : ∀ x, fget fd0 x = fget (itr (waysE m ss) a 30) x := L0.uniq L1
  have eks : SrtQ.isort SrtQ.ltS (fd0.map (·.1)) = SrtQ.isort SrtQ.ltS ((itr (waysE m ss) a 30).map (·.1)) := isort_eq ((List.perm_ext_iff_of_nodup nd0 I1.nd).mpr fun x => by rw [← fget_mem, ← fget_mem, same])
  rw [eks] at rch
  have fdl : (itr (waysE m ss) a 30).length ≤ 3 := by
    have := I1.len
    rw [List.length_map] at this
    exact Nat.le_trans this hl
  have fkl : ∀ x ∈ (itr (waysE m ss) a 30).map (·.1), (PyData.str x).canLay0 = true := fun x hx => K.lay x (I1.nm x hx)
  have ears0 : ∀ s ∈ ss.map (leanS m), ∀ e ∈ s.ears, 0 ≤ e.2 := fun s hs e he => by
    obtain ⟨t, ht, rfl⟩ := List.mem_map.mp hs
    rw [lean_ears] at he
    have := ((h.sg t ht).ear e (left_ears he)).2.2
    omega
  have earsE : ∀ s ∈ ss.map (leanS m), ∀ e ∈ s.ears, (e.1, s.name, e.2.toNat) ∈ waysE m ss := fun s hs e he => by
    unfold waysE
    exact List.mem_flatMap.mpr ⟨s, hs, List.mem_map.mpr ⟨e, he, rfl⟩⟩
  have i1 : gIx (chD many (ss.map (leanS m))) (.int 1) = some (.tuple ((ss.map (leanS m)).map Sg.d)) := rfl
  obtain ⟨st, d1, a1, hst⟩ := any_standing_ok hm h.m2 h.m4 ss h.l4 d
  obtain ⟨beat, d2, a2, hb⟩ := roll_nat d1 (n := 4) (by omega) (by omega)
  obtain ⟨l, d3, a3, hlm⟩ := roll_nat d2 (n := m) (by omega) (by omega)
  have gx : GLd m (ss.map (·.name)) [(beat, a, l)] := ⟨fun q hq => by rw [List.mem_singleton.mp hq]; exact hlm, fun q hq => by rw [List.mem_singleton.mp hq]; exact ha, fun q hq => by rw [List.mem_singleton.mp hq]; show beat ≤ 499; omega, by simp⟩
  obtain ⟨F, c1, Fl, cF⟩ := changed_ok hm h hst gx (N := 20) (by omega)
  have far : ∀ q ∈ F, (q.1 = beat ∧ q.2 = a) ∨ ∃ v, fget (itr (waysE m ss) a 30) q.2 = some v ∧ beat + v ≤ q.1 := fun q hq => by
    obtain ⟨i, s, h1, h2, h3⟩ := cF q hq
    have := far_law hm h hst (ld := lookL [(beat, a, l)]) (beat := beat) (a := a) (fun b x l' e => by
      unfold lookL at e
      rw [List.find?_singleton] at e
      by_cases z : beat = b ∧ a = x
      · rw [decide_eq_true z, if_pos rfl] at e
        cases e
        exact ⟨hlm, z.1.symm, z.2.symm⟩
      · rw [decide_eq_false z, if_neg (by decide)] at e
        cases e) L1 q.1 i s h1 h3
    rw [h2] at this
    exact this
  have Fn : ∀ q ∈ F, (PyData.str q.2).canLay0 = true := fun q hq => by
    obtain ⟨i, s, h1, h2, h3⟩ := cF q hq
    rw [← h2]
    exact (h.sg s (List.mem_of_getElem? h1)).word.2
  have nl : ∀ s ∈ ss, s.name ∈ ss.map (·.name) := fun s hs => List.mem_map.mpr ⟨s, hs, rfl⟩
  have gmany : gIx (chD many ss) (.int 0) = some (natD m) := by show some (PyData.int many) = _; rw [hm]; try rfl
  generalize hE : waysE m ss = E at *
  generalize hfd : itr E a 30 = fd at *
  have hflat : ((ss.map (leanS m)).flatMap fun s => s.ears.map fun e => (e.1, s.name, e.2.toNat)) = E := by rw [← hE]; rfl
  -- far = {}
  have s1 : ownFO 6 (cD (.dict [])) [.no, .ow (dcD d), .sh (chD many ss), .sh (.list (ss.map fun s => .str s.name)), .sh (chD many (ss.map (leanS m))), .sh (.str a), x6, x7, x8, x9, x10, x11, x12, x13, x14, x15, x16, x17, x18, x19, x20] = .nx (W8 (.ow (dcD d)) (.sh (chD many ss)) (.sh (.list (ss.map fun s => .str s.name))) (.sh (chD many (ss.map (leanS m)))) a [] x7 x8 x9 x10 x11 x12 x13 x14 x15 x16 x17 x18 x19 x20) := ownF_ok cD_ok
  -- the rounds
  obtain ⟨ρ', h2, y7, y13, y14, y15, y16, y17, y18, y19, rfl⟩ := loop_inv (g := setS 7) (fb := b_law_L3) (ds := rangeD 0 30) (fun i ρ => ∃ x7 x13 x14 x15 x16 x17 x18 x19, ρ = W8 (.ow (dcD d)) (.sh (chD many ss)) (.sh (.list (ss.map fun s => .str s.name))) (.sh (chD many (ss.map (leanS m)))) a (itr E a i) x7 x8 x9 x10 x11 x12 x13 x14 x15 x16 x17 x18 x19 x20) (fun i dd ρ hd hI => by
    obtain ⟨x7, x13, x14, x15, x16, x17, x18, x19, rfl⟩ := hI
    obtain ⟨y13, y14, y15, y16, y17, y18, y19, r⟩ := sgs_run K la (.ow (dcD d)) (.sh (chD many ss)) (.sh (.list (ss.map fun s => .str s.name))) (.sh (chD many (ss.map (leanS m)))) (.sh dd) x8 x9 x10 x11 x12 x20 h20 (ss.map (leanS m)) (itr E a i) x13 x14 x15 x16 x17 x18 x19 ears0 earsE (itr_inv K ha i)
    rw [hflat] at r
    refine ⟨_, _, rfl, ?_, .sh dd, y13, y14, y15, y16, y17, y18, y19, rfl⟩
    rw [b_law_L3]
    exact (for_ok (seqI_t (op2_ok (vN_ok rfl) cD_ok i1))).trans r) (ρ := W8 (.ow (dcD d)) (.sh (chD many ss)) (.sh (.list (ss.map fun s => .str s.name))) (.sh (chD many (ss.map (leanS m)))) a [] x7 x8 x9 x10 x11 x12 x13 x14 x15 x16 x17 x18 x19 x20) ⟨x7, x13, x14, x15, x16, x17, x18, x19, rfl⟩
  have hl30 : (rangeD 0 30).length = 30 := by simp [rangeD]
  rw [hl30, hfd] at h2
  have hrg : rg1 [natD 30] = some (rangeD 0 30) := e_rg1 (n := 30) (by omega)
  have s2 := (for_ok (g := setS 7) (f := b_law_L3) (opI_ok (g := rg1) (aC1 (cD_ok (d := .int 30) (ρ := W8 (.ow (dcD d)) (.sh (chD many ss)) (.sh (.list (ss.map fun s => .str s.name))) (.sh (chD many (ss.map (leanS m)))) a [] x7 x8 x9 x10 x11 x12 x13 x14 x15 x16 x17 x18 x19 x20))) hrg)).trans h2
  -- reaches
  have PK : P 1 (.list ((SrtQ.isort SrtQ.ltS (fd.map (·.1))).map .str)) := .list fun x hx => by
    obtain ⟨y, hy, rfl⟩ := List.mem_map.mp hx
    exact .str (fkl y ((SrtQ.isort_perm _).mem_iff.mp hy))
  have t3 : tst (op2 gNe (callM m_reaches (aC (vN 2) (aC (vN 5) aN))) (opA gSortS (aC (vN 6) aN))) (demR false (W8 (.ow (dcD d)) (.sh (chD many ss)) (.sh (.list (ss.map fun s => .str s.name))) (.sh (chD many (ss.map (leanS m)))) a fd y7 x8 x9 x10 x11 x12 y13 y14 y15 y16 y17 y18 y19 x20)) = .ok (false, demR false (W8 (.ow (dcD d)) (.sh (chD many ss)) (.sh (.list (ss.map fun s => .str s.name))) (.sh (chD many (ss.map (leanS m)))) a fd y7 x8 x9 x10 x11 x12 y13 y14 y15 y16 y17 y18 y19 x20)) := tst_ok (op2_ok (callM_ok (aC_ok (vN_ok rfl) (aC1 (vN_ok rfl))) rch) (opA_ok (aC1 (vN_ok rfl)) (gSortS_fD (by omega))) (ne_same PK))
  have s3 : ifO (brwT false (tst (op2 gNe (callM m_reaches (aC (vN 2) (aC (vN 5) aN))) (opA gSortS (aC (vN 6) aN))))) (retO (cD (.bool false))) nxO (W8 (.ow (dcD d)) (.sh (chD many ss)) (.sh (.list (ss.map fun s => .str s.name))) (.sh (chD many (ss.map (leanS m)))) a fd y7 x8 x9 x10 x11 x12 y13 y14 y15 y16 y17 y18 y19 x20) = .nx (W8 (.ow (dcD d)) (.sh (chD many ss)) (.sh (.list (ss.map fun s => .str s.name))) (.sh (chD many (ss.map (leanS m)))) a fd y7 x8 x9 x10 x11 x12 y13 y14 y15 y16 y17 y18 y19 x20) := by
    rw [ifO_ok (brwT_ok rfl t3 rfl)]; try rfl
  -- soonest
  obtain ⟨ρ', h4, y8, rfl⟩ := loop_inv (g := setS 8) (fb := b_law_L4) (ds := ss.map fun s => .str s.name) (fun _ ρ => ∃ x8, ρ = W8 (.ow (dcD d)) (.sh (chD many ss)) (.sh (.list (ss.map fun s => .str s.name))) (.sh (chD many (ss.map (leanS m)))) a fd y7 x8 x9 x10 x11 x12 y13 y14 y15 y16 y17 y18 y19 x20) (fun i dd ρ hd hI => by
    obtain ⟨x8, rfl⟩ := hI
    rw [List.getElem?_map] at hd
    obtain ⟨s, hs, rfl⟩ := Option.map_eq_some_iff.mp hd
    have hsn := nl s (List.mem_of_getElem? hs)
    have so := soon s.name hsn
    rw [same] at so
    have dg := dget1_ok (a := vN 6) (b := vN 8) (ps := fD fd) (k := .str s.name) (ρ := demR false (W8 (.ow (dcD d)) (.sh (chD many ss)) (.sh (.list (ss.map fun s => .str s.name))) (.sh (chD many (ss.map (leanS m)))) a fd y7 (.sh (.str s.name)) x9 x10 x11 x12 y13 y14 y15 y16 y17 y18 y19 x20)) (vN_ok rfl) (vN_ok rfl) (keyOk_fD _ _)
    rw [onD_get] at dg
    have t4 : tst (op2 gNe (callM m_soonest (aC (vN 2) (aC (vN 5) (aC (vN 8) aN)))) (dget1 (vN 6) (vN 8))) (demR false (W8 (.ow (dcD d)) (.sh (chD many ss)) (.sh (.list (ss.map fun s => .str s.name))) (.sh (chD many (ss.map (leanS m)))) a fd y7 (.sh (.str s.name)) x9 x10 x11 x12 y13 y14 y15 y16 y17 y18 y19 x20)) = .ok (false, demR false (W8 (.ow (dcD d)) (.sh (chD many ss)) (.sh (.list (ss.map fun s => .str s.name))) (.sh (chD many (ss.map (leanS m)))) a fd y7 (.sh (.str s.name)) x9 x10 x11 x12 y13 y14 y15 y16 y17 y18 y19 x20)) := tst_ok (op2_ok (callM_ok (aC_ok (vN_ok rfl) (aC_ok (vN_ok rfl) (aC1 (vN_ok rfl)))) so) dg (ne_same (onD_P _)))
    refine ⟨W8 (.ow (dcD d)) (.sh (chD many ss)) (.sh (.list (ss.map fun s => .str s.name))) (.sh (chD many (ss.map (leanS m)))) a fd y7 (.sh (.str s.name)) x9 x10 x11 x12 y13 y14 y15 y16 y17 y18 y19 x20, _, rfl, ?_, .sh (.str s.name), rfl⟩
    rw [b_law_L4]
    rw [ifO_ok (brwT_ok (ρ := W8 (.ow (dcD d)) (.sh (chD many ss)) (.sh (.list (ss.map fun s => .str s.name))) (.sh (chD many (ss.map (leanS m)))) a fd y7 (.sh (.str s.name)) x9 x10 x11 x12 y13 y14 y15 y16 y17 y18 y19 x20) rfl t4 rfl)]; try rfl) (ρ := W8 (.ow (dcD d)) (.sh (chD many ss)) (.sh (.list (ss.map fun s => .str s.name))) (.sh (chD many (ss.map (leanS m)))) a fd y7 x8 x9 x10 x11 x12 y13 y14 y15 y16 y17 y18 y19 x20) ⟨x8, rfl⟩
  have s4 := (for_ok (g := setS 8) (f := b_law_L4) (seqI_l (vN_ok (i := 3) (ρ := W8 (.ow (dcD d)) (.sh (chD many ss)) (.sh (.list (ss.map fun s => .str s.name))) (.sh (chD many (ss.map (leanS m)))) a fd y7 x8 x9 x10 x11 x12 y13 y14 y15 y16 y17 y18 y19 x20) rfl))).trans h4
  -- standing, beat
  have c5 : aC (callL 1 m_law_any_standing (aC (vN 2) aN)) (aC (callL 1 m_law_roll (aC (cD (.int 4)) aN)) aN) (W8 (.ow (dcD d)) (.sh (chD many ss)) (.sh (.list (ss.map fun s => .str s.name))) (.sh (chD many (ss.map (leanS m)))) a fd y7 y8 x9 x10 x11 x12 y13 y14 y15 y16 y17 y18 y19 x20) = .ok ([stD st, natD beat], W8 (.ow (dcD d2)) (.sh (chD many ss)) (.sh (.list (ss.map fun s => .str s.name))) (.sh (chD many (ss.map (leanS m)))) a fd y7 y8 x9 x10 x11 x12 y13 y14 y15 y16 y17 y18 y19 x20) := by
    have e1 : callL 1 m_law_any_standing (aC (vN 2) aN) (W8 (.ow (dcD d)) (.sh (chD many ss)) (.sh (.list (ss.map fun s => .str s.name))) (.sh (chD many (ss.map (leanS m)))) a fd y7 y8 x9 x10 x11 x12 y13 y14 y15 y16 y17 y18 y19 x20) = .ok (stD st, W8 (.ow (dcD d1)) (.sh (chD many ss)) (.sh (.list (ss.map fun s => .str s.name))) (.sh (chD many (ss.map (leanS m)))) a fd y7 y8 x9 x10 x11 x12 y13 y14 y15 y16 y17 y18 y19 x20) := callL_ok rfl (aC1 (vN_ok rfl)) a1
    have e2 : callL 1 m_law_roll (aC (cD (.int 4)) aN) (W8 (.ow (dcD d1)) (.sh (chD many ss)) (.sh (.list (ss.map fun s => .str s.name))) (.sh (chD many (ss.map (leanS m)))) a fd y7 y8 x9 x10 x11 x12 y13 y14 y15 y16 y17 y18 y19 x20) = .ok (natD beat, W8 (.ow (dcD d2)) (.sh (chD many ss)) (.sh (.list (ss.map fun s => .str s.name))) (.sh (chD many (ss.map (leanS m)))) a fd y7 y8 x9 x10 x11 x12 y13 y14 y15 y16 y17 y18 y19 x20) := callL_ok rfl (aC1 cD_ok) a2
    exact aC_ok e1 (aC1 e2)
  have s5 : par2 9 10 (aC (callL 1 m_law_any_standing (aC (vN 2) aN)) (aC (callL 1 m_law_roll (aC (cD (.int 4)) aN)) aN)) (W8 (.ow (dcD d)) (.sh (chD many ss)) (.sh (.list (ss.map fun s => .str s.name))) (.sh (chD many (ss.map (leanS m)))) a fd y7 y8 x9 x10 x11 x12 y13 y14 y15 y16 y17 y18 y19 x20) = .nx (W8 (.ow (dcD d2)) (.sh (chD many ss)) (.sh (.list (ss.map fun s => .str s.name))) (.sh (chD many (ss.map (leanS m)))) a fd y7 y8 (.sh (stD st)) (.sh (natD beat)) x11 x12 y13 y14 y15 y16 y17 y18 y19 x20) := par2_ok c5 (by simp [W8]) (by simp [W8])
  -- lead
  have g6 : gD1 (spotD beat a) (natD l) = some (.dict ([(beat, a, l)].map spotP)) := by
    show (if plainD (spotD beat a) = true ∨ (isTupD (spotD beat a) && deepD (spotD beat a)) = true then some (PyData.dict [(spotD beat a, natD l)]) else none) = _
    have ds := deep_spot (beat : Nat) a
    rw [if_pos (.inr (by show (true && deepD (spotD beat a)) = true; rw [Bool.true_and]; exact ds))]; rfl
  have e6 : callL 1 m_law_roll (aC (op2 gIx (vN 2) (cD (.int 0))) aN) (W8 (.ow (dcD d2)) (.sh (chD many ss)) (.sh (.list (ss.map fun s => .str s.name))) (.sh (chD many (ss.map (leanS m)))) a fd y7 y8 (.sh (stD st)) (.sh (natD beat)) x11 x12 y13 y14 y15 y16 y17 y18 y19 x20) = .ok (natD l, W8 (.ow (dcD d3)) (.sh (chD many ss)) (.sh (.list (ss.map fun s => .str s.name))) (.sh (chD many (ss.map (leanS m)))) a fd y7 y8 (.sh (stD st)) (.sh (natD beat)) x11 x12 y13 y14 y15 y16 y17 y18 y19 x20) := callL_ok rfl (aC1 (op2_ok (vN_ok rfl) cD_ok gmany)) a3
  have s6 : asgO (op2 gD1 (opA gTupD (aC (vN 10) (aC (vN 5) aN))) (callL 1 m_law_roll (aC (op2 gIx (vN 2) (cD (.int 0))) aN))) (setS 11) (W8 (.ow (dcD d2)) (.sh (chD many ss)) (.sh (.list (ss.map fun s => .str s.name))) (.sh (chD many (ss.map (leanS m)))) a fd y7 y8 (.sh (stD st)) (.sh (natD beat)) x11 x12 y13 y14 y15 y16 y17 y18 y19 x20) = .nx (W8 (.ow (dcD d3)) (.sh (chD many ss)) (.sh (.list (ss.map fun s => .str s.name))) (.sh (chD many (ss.map (leanS m)))) a fd y7 y8 (.sh (stD st)) (.sh (natD beat)) (.sh (.dict ([(beat, a, l)].map spotP))) x12 y13 y14 y15 y16 y17 y18 y19 x20) :=
    asg_gm (op2_ok (opA_ok (aC_ok (vN_ok rfl) (aC1 (vN_ok rfl))) rfl) e6 g6) rfl
  -- changed
  obtain ⟨ρ', h7, z12, z13, rfl⟩ := loop_inv (g := unT (gsC (setS 12) (gsC (setS 13) gsN))) (fb := b_law_L5) (ds := F.map fun q => spotD q.1 q.2) (fun _ ρ => ∃ x12 x13, ρ = W8 (.ow (dcD d3)) (.sh (chD many ss)) (.sh (.list (ss.map fun s => .str s.name))) (.sh (chD many (ss.map (leanS m)))) a fd y7 y8 (.sh (stD st)) (.sh (natD beat)) (.sh (.dict ([(beat, a, l)].map spotP))) x12 x13 y14 y15 y16 y17 y18 y19 x20) (fun i dd ρ hd hI => by
    obtain ⟨x12, x13, rfl⟩ := hI
    rw [List.getElem?_map] at hd
    obtain ⟨q, hq, rfl⟩ := Option.map_eq_some_iff.mp hd
    have hqF := List.mem_of_getElem? hq
    refine ⟨W8 (.ow (dcD d3)) (.sh (chD many ss)) (.sh (.list (ss.map fun s => .str s.name))) (.sh (chD many (ss.map (leanS m)))) a fd y7 y8 (.sh (stD st)) (.sh (natD beat)) (.sh (.dict ([(beat, a, l)].map spotP))) (.sh (natD q.1)) (.sh (.str q.2)) y14 y15 y16 y17 y18 y19 x20, _, rfl, ?_, .sh (natD q.1), .sh (.str q.2), rfl⟩
    have ne : gNe (spotD q.1 q.2) (spotD beat a) = some (.bool (!decide (q.1 = beat ∧ q.2 = a))) := gNe_P (P_spot (k := 0) (Fn q hqF)) (P_spot (k := 0) la) _ spotD_inj
    have t1 : tst (op2 gNe (opA gTupD (aC (vN 12) (aC (vN 13) aN))) (opA gTupD (aC (vN 10) (aC (vN 5) aN)))) (demR false (W8 (.ow (dcD d3)) (.sh (chD many ss)) (.sh (.list (ss.map fun s => .str s.name))) (.sh (chD many (ss.map (leanS m)))) a fd y7 y8 (.sh (stD st)) (.sh (natD beat)) (.sh (.dict ([(beat, a, l)].map spotP))) (.sh (natD q.1)) (.sh (.str q.2)) y14 y15 y16 y17 y18 y19 x20)) = .ok (!decide (q.1 = beat ∧ q.2 = a), demR false (W8 (.ow (dcD d3)) (.sh (chD many ss)) (.sh (.list (ss.map fun s => .str s.name))) (.sh (chD many (ss.map (leanS m)))) a fd y7 y8 (.sh (stD st)) (.sh (natD beat)) (.sh (.dict ([(beat, a, l)].map spotP))) (.sh (natD q.1)) (.sh (.str q.2)) y14 y15 y16 y17 y18 y19 x20)) := tst_ok (op2_ok (opA_ok (aC_ok (vN_ok rfl) (aC1 (vN_ok rfl))) rfl) (opA_ok (aC_ok (vN_ok rfl) (aC1 (vN_ok rfl))) rfl) ne)
    rw [b_law_L5]
    by_cases z : q.1 = beat ∧ q.2 = a
    · rw [decide_eq_true z] at t1
      rw [ifO_ok (brwT_ok rfl (andT_f t1) rfl)]; try rfl
    · rw [decide_eq_false z] at t1
      obtain ⟨v, hv, hle⟩ := (far q hqF).resolve_left z
      have nin : gNotInX (.str q.2) (.dict (fD fd)) = some (.bool false) := by
        show (if keyOk (fD fd) (.str q.2) = true then some (PyData.bool (!(dlook (fD fd) (.str q.2)).isSome)) else none) = _
        rw [if_pos (keyOk_fD _ _), dlook_fD, hv]; rfl
      have ix : gIxX (.dict (fD fd)) (.str q.2) = some (natD v) := by
        show (if keyOk (fD fd) (.str q.2) = true then dlook (fD fd) (.str q.2) else none) = _
        rw [if_pos (keyOk_fD _ _), dlook_fD, hv]; rfl
      have add : gAdd (natD beat) (natD v) = some (natD (beat + v)) := by
        show some (PyData.int (((beat : Nat) : Int) + ((v : Nat) : Int))) = _
        rw [← Int.natCast_add]
      have lt := lt_nn q.1 (beat + v)
      rw [decide_eq_false (by omega : ¬ q.1 < beat + v)] at lt
      rw [ifO_ok (brwT_ok rfl (andT_t t1 (orT_f (tst_ok (op2_ok (vN_ok rfl) (vN_ok rfl) nin)) (tst_ok (op2_ok (vN_ok rfl) (op2_ok (vN_ok rfl) (op2_ok (vN_ok rfl) (vN_ok rfl) ix) add) lt)))) rfl)]; try rfl) (ρ := W8 (.ow (dcD d3)) (.sh (chD many ss)) (.sh (.list (ss.map fun s => .str s.name))) (.sh (chD many (ss.map (leanS m)))) a fd y7 y8 (.sh (stD st)) (.sh (natD beat)) (.sh (.dict ([(beat, a, l)].map spotP))) x12 y13 y14 y15 y16 y17 y18 y19 x20) ⟨x12, y13, rfl⟩
  have s7 := (for_ok (g := unT (gsC (setS 12) (gsC (setS 13) gsN))) (f := b_law_L5) (seqI_l (callM_ok (m := m_changed) (aC_ok (vN_ok (i := 2) (ρ := W8 (.ow (dcD d3)) (.sh (chD many ss)) (.sh (.list (ss.map fun s => .str s.name))) (.sh (chD many (ss.map (leanS m)))) a fd y7 y8 (.sh (stD st)) (.sh (natD beat)) (.sh (.dict ([(beat, a, l)].map spotP))) x12 y13 y14 y15 y16 y17 y18 y19 x20) rfl) (aC_ok (vN_ok (i := 9) rfl) (aC_ok (vN_ok (i := 11) rfl) (aC1 (cD_ok (d := .int 20)))))) c1))).trans h7
  refine ⟨d3, .ow (.dict (fD fd)), y7, y8, .sh (stD st), .sh (natD beat), .sh (.dict ([(beat, a, l)].map spotP)), z12, z13, y14, y15, y16, y17, y18, y19, ?_⟩
  rw [b_law_L6, seq_nx s1, seq_nx s2, seq_nx s3, seq_nx s4, seq_nx s5, seq_nx s6]
  exact s7
end
theorem k08_main (c : Int) : ∃ ρ', b_law (DL.init law_n law_di c) = .nx ρ' ∧ ρ'.length = law_n := by
  obtain ⟨many, ss, d1, a1, hG, hc, hz⟩ := any_choir_ok (c, 0)
  have m2 := hG.m2
  have m4 := hG.m4
  have l3 : ss.length ≤ 3 := by omega
  obtain ⟨m, hm⟩ : ∃ m : Nat, many = m := ⟨many.toNat, by omega⟩
  have cr := lcrew_ok (many := many) (ss := ss) (by rw [e_LIM]; omega)
  have ln := lean_ok hm hG
  have s1 : asgO (callL 1 m_law_any_choir aN) (setS 2) [.no, .ow (dcD (c, 0)), .no, .no, .no, .no, .no, .no, .no, .no, .no, .no, .no, .no, .no, .no, .no, .no, .no, .no, .no] = .nx [.no, .ow (dcD d1), .sh (chD many ss), .no, .no, .no, .no, .no, .no, .no, .no, .no, .no, .no, .no, .no, .no, .no, .no, .no, .no] := asg_gm (callL_ok rfl aN_ok a1) rfl
  have c2 : aC (callM m_law_crew (aC (vN 2) aN)) (aC (callM m_lean (aC (vN 2) aN)) aN) [.no, .ow (dcD d1), .sh (chD many ss), .no, .no, .no, .no, .no, .no, .no, .no, .no, .no, .no, .no, .no, .no, .no, .no, .no, .no] = .ok ([.list (ss.map fun s => .str s.name), chD many (ss.map (leanS m))], [.no, .ow (dcD d1), .sh (chD many ss), .no, .no, .no, .no, .no, .no, .no, .no, .no, .no, .no, .no, .no, .no, .no, .no, .no, .no]) := aC_ok (callM_ok (aC1 (vN_ok rfl)) cr) (aC1 (callM_ok (aC1 (vN_ok rfl)) ln))
  have s2 : par2 3 4 (aC (callM m_law_crew (aC (vN 2) aN)) (aC (callM m_lean (aC (vN 2) aN)) aN)) [.no, .ow (dcD d1), .sh (chD many ss), .no, .no, .no, .no, .no, .no, .no, .no, .no, .no, .no, .no, .no, .no, .no, .no, .no, .no] = .nx [.no, .ow (dcD d1), .sh (chD many ss), .sh (.list (ss.map fun s => .str s.name)), .sh (chD many (ss.map (leanS m))), .no, .no, .no, .no, .no, .no, .no, .no, .no, .no, .no, .no, .no, .no, .no, .no] := par2_ok c2 (by simp) (by simp)
  obtain ⟨ρ', h3, d', x5, x6, x7, x8, x9, x10, x11, x12, x13, x14, x15, x16, x17, x18, x19, rfl⟩ := loop_inv (g := setS 5) (fb := b_law_L6) (ds := ss.map fun s => .str s.name) (fun _ ρ => ∃ d x5 x6 x7 x8 x9 x10 x11 x12 x13 x14 x15 x16 x17 x18 x19, ρ = [.no, .ow (dcD d), .sh (chD many ss), .sh (.list (ss.map fun s => .str s.name)), .sh (chD many (ss.map (leanS m))), x5, x6, x7, x8, x9, x10, x11, x12, x13, x14, x15, x16, x17, x18, x19, .no]) (fun i dd ρ hd hI => by
    obtain ⟨d, x5, x6, x7, x8, x9, x10, x11, x12, x13, x14, x15, x16, x17, x18, x19, rfl⟩ := hI
    rw [List.getElem?_map] at hd
    obtain ⟨s, hs, rfl⟩ := Option.map_eq_some_iff.mp hd
    obtain ⟨d', y6, y7, y8, y9, y10, y11, y12, y13, y14, y15, y16, y17, y18, y19, r⟩ := one_run hm hG l3 (List.mem_map.mpr ⟨s, List.mem_of_getElem? hs, rfl⟩) d x6 x7 x8 x9 x10 x11 x12 x13 x14 x15 x16 x17 x18 x19 .no rfl
    exact ⟨_, _, rfl, r, d', .sh (.str s.name), y6, y7, y8, y9, y10, y11, y12, y13, y14, y15, y16, y17, y18, y19, rfl⟩) (ρ := [.no, .ow (dcD d1), .sh (chD many ss), .sh (.list (ss.map fun s => .str s.name)), .sh (chD many (ss.map (leanS m))), .no, .no, .no, .no, .no, .no, .no, .no, .no, .no, .no, .no, .no, .no, .no, .no]) ⟨d1, .no, .no, .no, .no, .no, .no, .no, .no, .no, .no, .no, .no, .no, .no, .no, rfl⟩
  have s3 := (for_ok (g := setS 5) (f := b_law_L6) (seqI_l (vN_ok (i := 3) (ρ := [.no, .ow (dcD d1), .sh (chD many ss), .sh (.list (ss.map fun s => .str s.name)), .sh (chD many (ss.map (leanS m))), .no, .no, .no, .no, .no, .no, .no, .no, .no, .no, .no, .no, .no, .no, .no, .no]) rfl))).trans h3
  have fin := (seq_nx (g := seqO (par2 3 4 (aC (callM m_law_crew (aC (vN 2) aN)) (aC (callM m_lean (aC (vN 2) aN)) aN))) (forO (seqI (vN 3)) (setS 5) b_law_L6)) s1).trans ((seq_nx (g := forO (seqI (vN 3)) (setS 5) b_law_L6) s2).trans s3)
  exact ⟨_, fin, rfl⟩
end G
namespace Law
theorem main : ∀ c : Int, ∃ ρ', G.b_law (DL.init G.law_n G.law_di c) = .nx ρ' ∧ ρ'.length = G.law_n := G.k08_main
end Law
set_option maxHeartbeats 0
namespace Head
open PySem PySem.Spec PyProof.Rows L2 DL G
theorem facts {K : PySem.W.Frag} {h : Heap} {mg : Str → Option Value} (X : K.In h) (G : h.Ns mainGlobals mg) (c : He.SaysD fa fn K) : Tx K mg where
  f_is_whole := c.def_ 0 (d := d_is_whole) rfl
  g_is_whole := He.glo_ok X G (c.fact 0 (f := .glo "is_whole") rfl)
  f_is_word := c.def_ 1 (d := d_is_word) rfl
  g_is_word := He.glo_ok X G (c.fact 1 (f := .glo "is_word") rfl)
  f_rise := c.def_ 2 (d := d_rise) rfl
  g_rise := He.glo_ok X G (c.fact 2 (f := .glo "rise") rfl)
  f_are_lines := c.def_ 3 (d := d_are_lines) rfl
  g_are_lines := He.glo_ok X G (c.fact 3 (f := .glo "are_lines") rfl)
  f_is_ear := c.def_ 4 (d := d_is_ear) rfl
  g_is_ear := He.glo_ok X G (c.fact 4 (f := .glo "is_ear") rfl)
  f_are_ears := c.def_ 5 (d := d_are_ears) rfl
  g_are_ears := He.glo_ok X G (c.fact 5 (f := .glo "are_ears") rfl)
  f_places_for := c.def_ 6 (d := d_places_for) rfl
  g_places_for := He.glo_ok X G (c.fact 6 (f := .glo "places_for") rfl)
  f_is_singer := c.def_ 7 (d := d_is_singer) rfl
  g_is_singer := He.glo_ok X G (c.fact 7 (f := .glo "is_singer") rfl)
  f_is_choir := c.def_ 8 (d := d_is_choir) rfl
  g_is_choir := He.glo_ok X G (c.fact 8 (f := .glo "is_choir") rfl)
  f_need_choir := c.def_ 9 (d := d_need_choir) rfl
  g_need_choir := He.glo_ok X G (c.fact 9 (f := .glo "need_choir") rfl)
  f_all_names := c.def_ 10 (d := d_all_names) rfl
  g_all_names := He.glo_ok X G (c.fact 10 (f := .glo "all_names") rfl)
  f_is_good_standing := c.def_ 11 (d := d_is_good_standing) rfl
  g_is_good_standing := He.glo_ok X G (c.fact 11 (f := .glo "is_good_standing") rfl)
  f_need_standing := c.def_ 12 (d := d_need_standing) rfl
  g_need_standing := He.glo_ok X G (c.fact 12 (f := .glo "need_standing") rfl)
  f_need_name := c.def_ 13 (d := d_need_name) rfl
  g_need_name := He.glo_ok X G (c.fact 13 (f := .glo "need_name") rfl)
  f_number_of := c.def_ 14 (d := d_number_of) rfl
  g_number_of := He.glo_ok X G (c.fact 14 (f := .glo "number_of") rfl)
  f_heard_by := c.def_ 15 (d := d_heard_by) rfl
  g_heard_by := He.glo_ok X G (c.fact 15 (f := .glo "heard_by") rfl)
  f_place_of := c.def_ 16 (d := d_place_of) rfl
  g_place_of := He.glo_ok X G (c.fact 16 (f := .glo "place_of") rfl)
  f_table_line := c.def_ 17 (d := d_table_line) rfl
  g_table_line := He.glo_ok X G (c.fact 17 (f := .glo "table_line") rfl)
  f_all_next := c.def_ 18 (d := d_all_next) rfl
  g_all_next := He.glo_ok X G (c.fact 18 (f := .glo "all_next") rfl)
  f_behind := c.def_ 19 (d := d_behind) rfl
  g_behind := He.glo_ok X G (c.fact 19 (f := .glo "behind") rfl)
  f_on := c.def_ 20 (d := d_on) rfl
  g_on := He.glo_ok X G (c.fact 20 (f := .glo "on") rfl)
  f_do_count := c.def_ 21 (d := d_do_count) rfl
  g_do_count := He.glo_ok X G (c.fact 21 (f := .glo "do_count") rfl)
  f_ears_that_count := c.def_ 22 (d := d_ears_that_count) rfl
  g_ears_that_count := He.glo_ok X G (c.fact 22 (f := .glo "ears_that_count") rfl)
  f_lean_singer := c.def_ 23 (d := d_lean_singer) rfl
  g_lean_singer := He.glo_ok X G (c.fact 23 (f := .glo "lean_singer") rfl)
  f_leaned := c.def_ 24 (d := d_leaned) rfl
  g_leaned := He.glo_ok X G (c.fact 24 (f := .glo "leaned") rfl)
  f_lean := c.def_ 25 (d := d_lean) rfl
  g_lean := He.glo_ok X G (c.fact 25 (f := .glo "lean") rfl)
  f_all_soonest := c.def_ 26 (d := d_all_soonest) rfl
  g_all_soonest := He.glo_ok X G (c.fact 26 (f := .glo "all_soonest") rfl)
  f_soonest := c.def_ 27 (d := d_soonest) rfl
  g_soonest := He.glo_ok X G (c.fact 27 (f := .glo "soonest") rfl)
  f_reaches := c.def_ 28 (d := d_reaches) rfl
  g_reaches := He.glo_ok X G (c.fact 28 (f := .glo "reaches") rfl)
  f_need_both := c.def_ 29 (d := d_need_both) rfl
  g_need_both := He.glo_ok X G (c.fact 29 (f := .glo "need_both") rfl)
  f_need_beats := c.def_ 30 (d := d_need_beats) rfl
  g_need_beats := He.glo_ok X G (c.fact 30 (f := .glo "need_beats") rfl)
  f_rows_of := c.def_ 31 (d := d_rows_of) rfl
  g_rows_of := He.glo_ok X G (c.fact 31 (f := .glo "rows_of") rfl)
  f_is_lead := c.def_ 32 (d := d_is_lead) rfl
  g_is_lead := He.glo_ok X G (c.fact 32 (f := .glo "is_lead") rfl)
  f_need_leads := c.def_ 33 (d := d_need_leads) rfl
  g_need_leads := He.glo_ok X G (c.fact 33 (f := .glo "need_leads") rfl)
  f_led_lines := c.def_ 34 (d := d_led_lines) rfl
  g_led_lines := He.glo_ok X G (c.fact 34 (f := .glo "led_lines") rfl)
  f_led_rows := c.def_ 35 (d := d_led_rows) rfl
  g_led_rows := He.glo_ok X G (c.fact 35 (f := .glo "led_rows") rfl)
  f_changed := c.def_ 36 (d := d_changed) rfl
  g_changed := He.glo_ok X G (c.fact 36 (f := .glo "changed") rfl)
  f_law_cell := c.def_ 37 (d := d_law_cell) rfl
  g_law_cell := He.glo_ok X G (c.fact 37 (f := .glo "_law_cell") rfl)
  f_law_drawn := c.def_ 38 (d := d_law_drawn) rfl
  g_law_drawn := He.glo_ok X G (c.fact 38 (f := .glo "_law_drawn") rfl)
  f_law_roll := c.def_ 39 (d := d_law_roll) rfl
  g_law_roll := He.glo_ok X G (c.fact 39 (f := .glo "_law_roll") rfl)
  f_law_rounds := c.def_ 40 (d := d_law_rounds) rfl
  g_law_rounds := He.glo_ok X G (c.fact 40 (f := .glo "_law_rounds") rfl)
  f_law_any_singers := c.def_ 41 (d := d_law_any_singers) rfl
  g_law_any_singers := He.glo_ok X G (c.fact 41 (f := .glo "_law_any_singers") rfl)
  f_law_any_choir := c.def_ 42 (d := d_law_any_choir) rfl
  g_law_any_choir := He.glo_ok X G (c.fact 42 (f := .glo "_law_any_choir") rfl)
  f_law_any_standing := c.def_ 43 (d := d_law_any_standing) rfl
  g_law_any_standing := He.glo_ok X G (c.fact 43 (f := .glo "_law_any_standing") rfl)
  f_law_crew := c.def_ 44 (d := d_law_crew) rfl
  g_law_crew := He.glo_ok X G (c.fact 44 (f := .glo "_law_crew") rfl)
  f_law := c.def_ 45 (d := d_law) rfl
  g_law := He.glo_ok X G (c.fact 45 (f := .glo "law") rfl)
  x_SongError := ⟨He.glo_ok X G (c.fact 46 (f := .glo "SongError") rfl), He.exc_ok (c.fact 52 (f := .exc "SongError") rfl)⟩
  x_BadChoir := ⟨He.glo_ok X G (c.fact 47 (f := .glo "BadChoir") rfl), He.exc_ok (c.fact 53 (f := .exc "BadChoir") rfl)⟩
  x_BadName := ⟨He.glo_ok X G (c.fact 48 (f := .glo "BadName") rfl), He.exc_ok (c.fact 54 (f := .exc "BadName") rfl)⟩
  x_BadStanding := ⟨He.glo_ok X G (c.fact 49 (f := .glo "BadStanding") rfl), He.exc_ok (c.fact 55 (f := .exc "BadStanding") rfl)⟩
  x_BadNumber := ⟨He.glo_ok X G (c.fact 50 (f := .glo "BadNumber") rfl), He.exc_ok (c.fact 56 (f := .exc "BadNumber") rfl)⟩
  x_BadLead := ⟨He.glo_ok X G (c.fact 51 (f := .glo "BadLead") rfl), He.exc_ok (c.fact 57 (f := .exc "BadLead") rfl)⟩
  c_SMALL := He.str_ok X G (c.fact 58 (f := .str "SMALL" "abcdefghijklmnopqrstuvwxyz") rfl)
  c_LONGEST := He.int_ok X G (c.fact 59 (f := .int "LONGEST" 500) rfl)
  z_all := He.free_ok X G (c.fact 60 (f := .free "all") rfl)
  z_bool := He.free_ok X G (c.fact 61 (f := .free "bool") rfl)
  z_dict := He.free_ok X G (c.fact 62 (f := .free "dict") rfl)
  z_enumerate := He.free_ok X G (c.fact 63 (f := .free "enumerate") rfl)
  z_int := He.free_ok X G (c.fact 64 (f := .free "int") rfl)
  z_isinstance := He.free_ok X G (c.fact 65 (f := .free "isinstance") rfl)
  z_len := He.free_ok X G (c.fact 66 (f := .free "len") rfl)
  z_list := He.free_ok X G (c.fact 67 (f := .free "list") rfl)
  z_max := He.free_ok X G (c.fact 68 (f := .free "max") rfl)
  z_min := He.free_ok X G (c.fact 69 (f := .free "min") rfl)
  z_range := He.free_ok X G (c.fact 70 (f := .free "range") rfl)
  z_set := He.free_ok X G (c.fact 71 (f := .free "set") rfl)
  z_sorted := He.free_ok X G (c.fact 72 (f := .free "sorted") rfl)
  z_str := He.free_ok X G (c.fact 73 (f := .free "str") rfl)
  z_tuple := He.free_ok X G (c.fact 74 (f := .free "tuple") rfl)
  z_zip := He.free_ok X G (c.fact 75 (f := .free "zip") rfl)
end Head
open PySem PySem.W PySem.Calls PyProof.Rows
theorem PySem.Challenge.cw_hearsong_k08_whole_soonest_holds : PySem.Challenge.rw_hearsong_k08_whole_soonest.Holds := by
  w_on; o_law
  refine HandSHeadRun.head_any (r := OpenLaw.row PySem.Challenge.rw_hearsong_k08_whole_soonest) (q := view (OpenLaw.row PySem.Challenge.rw_hearsong_k08_whole_soonest).prog [59]) (H := Head.hk) (ob := Head.ob) (M := 9000) (loose := Head.loose) (d := HandSHeadRun.topDef (OpenLaw.row PySem.Challenge.rw_hearsong_k08_whole_soonest).prog 59) (kwd := []) Head.ob_eq
    (by kernel_rfl) (fun s => by kernel_rfl) Head.run (by kernel_rfl) (by kernel_rfl) (by kernel_rfl) (by kernel_rfl) (by first | assumption | decide +kernel) (by decide +kernel) ⟨by kernel_rfl, by kernel_rfl, by kernel_rfl, by kernel_rfl, by kernel_rfl, by decide +kernel⟩ ?hw ?hc
  case hw => w_witness2
  case hc =>
    refine LamX.walk_ofTsE (l := PySem.Challenge.rw_hearsong_k08_whole_soonest) (n := 63) (k := 9) (x := "script") (CX := fun w => L2N.CX (PySem.Challenge.rw_hearsong_k08_whole_soonest).prog w) rfl (by decide) (by kernel_rfl) ⟨rfl, by decide, by decide⟩ ?F (fun _ _ _ _ _ z => HD.cx_no z)
    intro w mg fa h Y Gn hmg0
    obtain ⟨K, KX, c, LS, ex⟩ := Y
    have hmg : mg ("law" : PySem.Str) = some (.ref fa) := by
      have e : (HandSHeadRun.topDef (OpenLaw.row PySem.Challenge.rw_hearsong_k08_whole_soonest).prog 59).name = ("law" : PySem.Str) := by kernel_rfl
      rw [← e]
      exact hmg0
    have T := Head.facts KX Gn c
    have e := hmg.symm.trans T.g_law
    cases e
    letI : DL.TabCtx := HD.ctxL K G.lams
    obtain ⟨fd, hF, hb⟩ := G.ok_law (P := (PySem.Challenge.rw_hearsong_k08_whole_soonest).prog) (w := w) T Law.main
    exact ⟨K, KX, fd, HD.codesL K G.lams, DL.spLaw ⟨K, w⟩, fun p hp => (LS.tab p hp).1, fun p hp => (LS.tab p hp).2.1, fun p hp => (LS.tab p hp).2.2, hb, fun H a ns hl _ hH hS => ⟨HD.tabs_start hH, a, ns, rfl, hS, hl, fun _ => rfl⟩, fun base _ _ TB => hF base (HD.lamKs LS TB)⟩
