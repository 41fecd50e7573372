import PyProof.Rows.All
import HandS.ForMost
import HandS.Exc
import HandS.ExcCtx
import HandS.HotCalls
import HandS.Lambda
import HandS.EndTab
import HandS.TryOnly
import HandS.ExcOwn
import HandS.WordsExc
import HandS.IsInst
import HandS.Deep
import HandS.TupAny
import HandS.TupMul
import HandS.TupLe
import HandS.Zip
import HandS.Style
import HandS.Wide
import HandS.HeadHook1
import HandS.HeadHook2
import KE.KDictKeyed
import HandS.SortRule
import KE.GoesEnum
import HandS.SetFor
import HandS.Ends
import HandS.HeadEnd
import HandS.Conv
import PyProof.DictDisplay
import HandS.Hot
import PyProof.Rows.SumAny
import HandS.ExcIs
import HandS.HeadWalk
import HandS.ExcInit
import HandS.ExcField
import KE.KExcIs
import KE.GoesMore
import KE.KDictZip
import KE.KDictDisplayH
import KE.KDictPairs
import HandS.DictComp
import KE.SortData
import KE.KDictCopyH
import KE.KDictSum
import KE.KTupSum
import KE.DataMinMax
import PyProof.Rows.CallKwBuiltin
import KE.GoesRaise
import HandS.Text
import HandS.FStr
import KE.DataMinKey
import KE.DataFind
import HandS.Strs
import PyProof.StrOps2
import Wide.All
import OpenK.AllK
import Wide.FinOn
import KE.KStateDown
import HandS.Base
import HandS.Call
import HandS.More
import HandS.Words
import HandS.Defaults
import HandS.Head0
import HandS.Head1
import HandS.Head2
import PySem.Challenge.RW_hearsong_k26_refusals_apart
set_option Elab.async false
set_option linter.all false
set_option maxRecDepth 100000
set_option maxHeartbeats 1000000
namespace DL
open PySem PySem.Spec PyProof.Rows L2
abbrev St := L2.St
/-- the text's frame and the world -/
structure KW where
  k : PySem.W.Frag
  w : World
instance : Coe KW PySem.W.Frag := ⟨KW.k⟩
abbrev _root_.L2.Cx.kw (X : Cx) : KW := ⟨X.K, X.w⟩
mutual
def nkey : PyData → Option NestedKey
  | .none => some .none
  | .bool b => some (.num (if b = true then 1 else 0))
  | .int i => some (.num i)
  | .str x => some (.text x)
  | .tuple ds => (nkeys ds).map .tup
  | .list _ => none
  | .dict _ => none
def nkeys : List PyData → Option (List NestedKey)
  | [] => some []
  | d :: ds => (nkey d).bind fun k => (nkeys ds).map fun ks => k :: ks
end
/-- at a stands an exact dict of the entries xs: key, the key's address, value -/
def XOk (w : World) (a : Addr) (xs : List (NestedKey × Addr × L2.V)) (ep : Nat) (h : Heap) : Prop := xs.length ≤ sizeLine ∧ (a == sysModules) = false ∧ (xs.map (·.1)).Nodup ∧ ∃ (us : List (NestedKey × Addr × Value)) (o : Obj) (es : Array DictEntry),
  Paired (fun (x : NestedKey × Addr × L2.V) (u : NestedKey × Addr × Value) => x.1 = u.1 ∧ x.2.1 = u.2.1 ∧ RelV x.2.2 u.2.2) xs us ∧ h.get? a = some o ∧ o.ExactDict ∧ o.data = .dict es ep ∧ es.toList = us.map fun u => ⟨u.1.hash w, .ref u.2.1, u.2.2⟩
def dX (w : World) (a : Addr) (xs : List (NestedKey × Addr × L2.V)) (ep : Nat) : HO := .ext (XOk w a xs ep)
theorem rd_same {H H' : Hp} (e : Same H H') {a : Addr} {u : HO} (h : L2.Rd H a u) : L2.Rd H' a u := h.elim (fun h => .inl (e _ _ h)) fun ⟨o, h⟩ => .inr ⟨o, e _ _ h⟩
def keyD : Key → PyData
  | .inl i => .int i
  | .inr x => .str x
mutual
inductive Rep (K : KW) (H : Hp) : V → PyData → Prop
  | non : Rep K H .non .none
  | bl (b : Bool) : Rep K H (.bl b) (.bool b)
  | int (i : Int) : Rep K H (.int i) (.int i)
  | str (x : Str) : Rep K H (.str x) (.str x)
  | lst {a : Addr} {xs : List V} {ds : List PyData} : H a = some (.lst xs) → RepL K H xs ds → Rep K H (.ref a) (.list ds)
  | tup {a : Addr} {xs : List V} {ds : List PyData} : H a = some (.tup xs) → RepL K H xs ds → Rep K H (.ref a) (.tuple ds)
  | dk {a : Addr} {kvs : List (Key × V)} {ps : List (PyData × PyData)} : L2.Rd H a (.dK kvs) → RepK K H kvs ps → ps ≠ [] → Rep K H (.ref a) (.dict ps)
  | dt {a : Addr} {xs : List (NestedKey × Addr × V)} {ep : Nat} {ps : List (PyData × PyData)} : H a = some (dX K.w a xs ep) → RepT K H xs ps → Rep K H (.ref a) (.dict ps)
inductive RepL (K : KW) (H : Hp) : List V → List PyData → Prop
  | nil : RepL K H [] []
  | cons {v : V} {vs : List V} {d : PyData} {ds : List PyData} : Rep K H v d → RepL K H vs ds → RepL K H (v :: vs) (d :: ds)
inductive RepK (K : KW) (H : Hp) : List (Key × V) → List (PyData × PyData) → Prop
  | nil : RepK K H [] []
  | cons {k : Key} {v : V} {kvs : List (Key × V)} {d : PyData} {ps : List (PyData × PyData)} : Rep K H v d → RepK K H kvs ps → RepK K H ((k, v) :: kvs) ((keyD k, d) :: ps)
inductive RepT (K : KW) (H : Hp) : List (NestedKey × Addr × V) → List (PyData × PyData) → Prop
  | nil : RepT K H [] []
  | cons {k : NestedKey} {b : Addr} {v : V} {xs : List (NestedKey × Addr × V)} {dk d : PyData} {ps : List (PyData × PyData)} : Rep K H (.ref b) dk → nkey dk = some k → k.depth ≤ 8 → Rep K H v d → RepT K H xs ps → RepT K H ((k, b, v) :: xs) ((dk, d) :: ps)
end
theorem sqt {K : PySem.W.Frag} {V H : Hp} {a : Addr} {xs : List L2.V} (e : Same V H) (h : V a = some (.tup xs)) : SqT K H a xs := .inl (.inl (e _ _ h))
mutual
theorem Rep.mono {K : KW} {H H' : Hp} (e : Same H H') : ∀ {v : V} {d : PyData}, Rep K H v d → Rep K H' v d
  | _, _, .non => .non
  | _, _, .bl b => .bl b
  | _, _, .int i => .int i
  | _, _, .str x => .str x
  | _, _, .lst h r => .lst (e _ _ h) (RepL.mono e r)
  | _, _, .tup h r => .tup (e _ _ h) (RepL.mono e r)
  | _, _, .dk h r n => .dk (rd_same e h) (RepK.mono e r) n
  | _, _, .dt h r => .dt (e _ _ h) (RepT.mono e r)
theorem RepL.mono {K : KW} {H H' : Hp} (e : Same H H') : ∀ {vs : List V} {ds : List PyData}, RepL K H vs ds → RepL K H' vs ds
  | _, _, .nil => .nil
  | _, _, .cons r t => .cons (Rep.mono e r) (RepL.mono e t)
theorem RepK.mono {K : KW} {H H' : Hp} (e : Same H H') : ∀ {vs : List (Key × V)} {ds : List (PyData × PyData)}, RepK K H vs ds → RepK K H' vs ds
  | _, _, .nil => .nil
  | _, _, .cons r t => .cons (Rep.mono e r) (RepK.mono e t)
theorem RepT.mono {K : KW} {H H' : Hp} (e : Same H H') : ∀ {vs : List (NestedKey × Addr × V)} {ds : List (PyData × PyData)}, RepT K H vs ds → RepT K H' vs ds
  | _, _, .nil => .nil
  | _, _, .cons q n z r t => .cons (Rep.mono e q) n z (Rep.mono e r) (RepT.mono e t)
end
theorem RepL.length {K : KW} {H : Hp} : ∀ {vs : List V} {ds : List PyData}, RepL K H vs ds → vs.length = ds.length
  | _, _, .nil => rfl
  | _, _, .cons _ t => by simp [RepL.length t]
theorem RepL.get {K : KW} {H : Hp} : ∀ {vs : List V} {ds : List PyData} (i : Nat) {d : PyData}, RepL K H vs ds → ds[i]? = some d → ∃ v, vs[i]? = some v ∧ Rep K H v d
  | _, _, _, _, .nil, h => by simp at h
  | _, _, 0, _, .cons r t, h => by simp at h; subst h; exact ⟨_, rfl, r⟩
  | _, _, i + 1, _, .cons r t, h => by
    obtain ⟨v, h1, h2⟩ := RepL.get i t (by simpa using h)
    exact ⟨v, by simpa using h1, h2⟩
theorem RepL.append {K : KW} {H : Hp} : ∀ {vs us : List V} {ds es : List PyData}, RepL K H vs ds → RepL K H us es → RepL K H (vs ++ us) (ds ++ es)
  | _, _, _, _, .nil, h => h
  | _, _, _, _, .cons r t, h => .cons r (RepL.append t h)
theorem RepL.drop {K : KW} {H : Hp} : ∀ (n : Nat) {vs : List V} {ds : List PyData}, RepL K H vs ds → RepL K H (vs.drop n) (ds.drop n)
  | 0, _, _, h => h
  | _ + 1, _, _, .nil => .nil
  | n + 1, _, _, .cons _ t => RepL.drop n t
theorem RepL.take {K : KW} {H : Hp} : ∀ (n : Nat) {vs : List V} {ds : List PyData}, RepL K H vs ds → RepL K H (vs.take n) (ds.take n)
  | 0, _, _, _ => .nil
  | _ + 1, _, _, .nil => .nil
  | n + 1, _, _, .cons r t => .cons r (RepL.take n t)
theorem RepL.set {K : KW} {H : Hp} {v : V} {d : PyData} (r : Rep K H v d) : ∀ (i : Nat) {vs : List V} {ds : List PyData}, RepL K H vs ds → RepL K H (vs.set i v) (ds.set i d)
  | _, _, _, .nil => .nil
  | 0, _, _, .cons _ t => .cons r t
  | i + 1, _, _, .cons q t => .cons q (RepL.set r i t)
theorem RepL.rep {K : KW} {H : Hp} {vs : List V} {ds : List PyData} (h : RepL K H vs ds) : ∀ n : Nat, RepL K H (List.replicate n vs).flatten (List.replicate n ds).flatten
  | 0 => .nil
  | n + 1 => by
    rw [List.replicate_succ, List.replicate_succ]
    exact h.append (h.rep n)
mutual
def imm : PyData → Bool
  | .none => true
  | .bool _ => true
  | .int _ => true
  | .str _ => true
  | .tuple ds => immL ds
  | .list _ => false
  | .dict _ => false
def immL : List PyData → Bool
  | [] => true
  | d :: ds => imm d && immL ds
end
/-- every tuple of H stands in H' -/
def SameT (H H' : Hp) : Prop := (∀ b xs, H b = some (.tup xs) → H' b = some (.tup xs)) ∧ ∀ b o xs, H b = some (.frz o (.tup xs)) → H' b = some (.frz o (.tup xs))
mutual
theorem Rep.imm {K : KW} {H H' : Hp} (e : SameT H H') : ∀ {v : V} {d : PyData}, Rep K H v d → imm d = true → Rep K H' v d
  | _, _, .non, _ => .non
  | _, _, .bl b, _ => .bl b
  | _, _, .int i, _ => .int i
  | _, _, .str x, _ => .str x
  | _, _, .lst h r, q => by simp [DL.imm] at q
  | _, _, .tup h r, q => .tup (e.1 _ _ h) (RepL.imm e r (by simpa [DL.imm] using q))
  | _, _, .dk h r _, q => by simp [DL.imm] at q
  | _, _, .dt h r, q => by simp [DL.imm] at q
theorem RepL.imm {K : KW} {H H' : Hp} (e : SameT H H') : ∀ {vs : List V} {ds : List PyData}, RepL K H vs ds → immL ds = true → RepL K H' vs ds
  | _, _, .nil, _ => .nil
  | _, _, .cons r t, q => by
    have q' := Bool.and_eq_true_iff.mp q
    exact .cons (Rep.imm e r q'.1) (RepL.imm e t q'.2)
end
mutual
theorem Rep.dp {K : KW} {H : Hp} : ∀ {v : V} {d : PyData}, Rep K H v d → d.canLay0 = true → Dp K H v d
  | _, _, .non, _ => .non
  | _, _, .bl b, _ => .bl b
  | _, _, .int i, _ => .int i
  | _, _, .str x, _ => .str x
  | _, _, .lst h r, q => .lst (.inl (.inl h)) (RepL.dp r (by simpa [PyData.canLay0] using q))
  | _, _, .tup h r, q => .tup (.inl (.inl h)) (RepL.dp r (by simpa [PyData.canLay0] using q))
  | _, _, .dk h r _, q => by simp [PyData.canLay0] at q
  | _, _, .dt h r, q => by simp [PyData.canLay0] at q
theorem RepL.dp {K : KW} {H : Hp} : ∀ {vs : List V} {ds : List PyData}, RepL K H vs ds → PyData.canLayAll0 ds = true → DpAll K H vs ds
  | _, _, .nil, _ => .nil
  | _, _, .cons r t, q => by
    have q' := Bool.and_eq_true_iff.mp q
    exact .cons (Rep.dp r q'.1) (RepL.dp t q'.2)
end
/-- defs that make lambdas -/
def lamNames : List Str := ["law", "_law_names_refused", "_law_rows_refused", "silent_from", "all_soonest", "found_leading", "parting"]
/-- a def's code object and its table -/
def tabOf (K : PySem.W.Frag) (x : Str) : Option (Addr × Addr) := match K.lookup (He.ga K x) with
  | some ⟨_, _, .func fd, _⟩ => (match fd.code with
    | .ref c => (match K.lookup c with
      | some ⟨_, _, .fields vs, _⟩ => (match (vs[11]? : Option Value) with
        | some (Value.ref p) => some (c, p)
        | _ => none)
      | _ => none)
    | _ => none)
  | _ => none
def tabs (K : PySem.W.Frag) : List (Addr × Str) := lamNames.filterMap fun x => (tabOf K x).map fun q => (q.2, x ++ ".<locals>.<lambda>")
abbrev nT (o : HO) : Prop := ∀ ps, o ≠ .tbl ps
/-- no table, no code object -/
structure Plain (o : HO) : Prop where
  t : nT o
  c : ∀ c q, o ≠ LamX.CodeO c q
theorem plain_lst {xs : List V} : Plain (.lst xs) := ⟨fun _ z => (by cases z), fun _ _ z => (by unfold LamX.CodeO at z; cases z)⟩
theorem plain_dK {xs : List (Key × V)} : Plain (.dK xs) := ⟨fun _ z => (by cases z), fun _ _ z => (by unfold LamX.CodeO at z; cases z)⟩
theorem plain_dX {w : World} {a : Addr} {xs : List (NestedKey × Addr × V)} {ep : Nat} : Plain (dX w a xs ep) := by
  refine ⟨fun _ z => (by unfold dX at z; cases z), fun c q z => ?_⟩
  unfold LamX.CodeO dX at z
  have e := HO.ext.inj z
  have e2 := congrFun e { objs := Array.replicate (c + 1) { cls := .none, data := .fields #[.none, .str q 0] } }
  have k : XOk w a xs ep { objs := Array.replicate (c + 1) { cls := .none, data := .fields #[.none, .str q 0] } } := by
    rw [e2]
    refine ⟨{ cls := .none, data := .fields #[.none, .str q 0] }, #[.none, .str q 0], 0, ?_, rfl, rfl⟩
    simp [Heap.get?]
  obtain ⟨_, _, _, us, o, es, _, ho, _, hd, _⟩ := k
  unfold Heap.get? at ho
  simp only [Array.getElem?_replicate] at ho
  split at ho
  · cases ho
  · split at ho
    · cases ho; cases hd
    · cases ho
theorem tabs_upd {T : List (Addr × Str)} {H : Hp} {p : Addr} {o : HO} (h : ∀ x, H p = some x → Plain x) (t : LamX.Tabs T H) : LamX.Tabs T (upd H p o) := fun q hq => by
  obtain ⟨ps, h1, h2, h3⟩ := t q hq
  refine ⟨ps, ?_, h2, fun pos cv hc => ?_⟩
  · rw [upd_ne (fun z => (h _ (by rw [← z]; exact h1)).t _ rfl)]; exact h1
  · obtain ⟨c, e1, e2⟩ := h3 pos cv hc
    refine ⟨c, e1, ?_⟩
    rw [upd_ne (fun z => (h _ (by rw [← z]; exact e2)).c _ _ rfl)]; exact e2
/-- the tables, each with the name of its code objects -/
class TabCtx where
  T : List (Addr × Str)
variable [TabCtx]
abbrev TBS : List (Addr × Str) := TabCtx.T
def TabV (H V : Hp) : Prop := LamX.Tabs TBS H ∧ ∀ p ∈ TBS, V p.1 = none
structure Ext (H V H' V' : Hp) : Prop where
  h : LamX.ExtN H H'
  v : Same V V'
  s : Same V' H'
  f : ∀ b, V b = none → H b ≠ none → V' b = none
  th : ∀ b, H b ≠ none → H' b ≠ none
  t : LamX.Tabs TBS H → LamX.Tabs TBS H'
theorem Same.th {H H' : Hp} (e : Same H H') (b : Addr) (h : H b ≠ none) : H' b ≠ none := by
  cases q : H b with
  | none => exact absurd q h
  | some o => rw [e b o q]; exact fun z => nomatch z
theorem Ext.of {H V H' V' : Hp} (h : Same H H') (v : Same V V') (s : Same V' H') (f : ∀ b, V b = none → H b ≠ none → V' b = none) : Ext H V H' V' :=
  ⟨LamX.ExtN.of h, v, s, f, Same.th h, fun t => t.ext h⟩
theorem Ext.refl {H V : Hp} (s : Same V H) : Ext H V H V := .of (Same.refl _) (Same.refl _) s fun _ h _ => h
theorem Ext.trans {H V H1 V1 H2 V2 : Hp} (a : Ext H V H1 V1) (b : Ext H1 V1 H2 V2) : Ext H V H2 V2 :=
  ⟨a.h.trans b.h, a.v.trans b.v, b.s, (fun c h1 h2 => b.f c (a.f c h1 h2) (a.th c h2)), (fun c h => b.th c (a.th c h)), fun t => b.t (a.t t)⟩
theorem Ext.free {H V H' V' : Hp} (x : Ext H V H' V') {b : Addr} (h : H' b = none) : H b = none := by
  cases e : H b with
  | none => rfl
  | some o => exact absurd h (x.th b (by rw [e]; exact fun z => nomatch z))
theorem same_new {H : Hp} {p : Addr} {o : HO} (h : H p = none) : Same H (upd H p o) := fun b x e => by
  rw [upd_ne (ne_of_none e h)]
  exact e
theorem Ext.new {H V : Hp} {p : Addr} {o : HO} (s : Same V H) (h : H p = none) : Ext H V (upd H p o) (upd V p o) := by
  have hv : V p = none := s.free h
  refine .of (same_new h) (same_new hv) (fun b x e => ?_) (fun b h1 h2 => ?_)
  · by_cases q : b = p
    · subst q; rw [upd_same] at e ⊢; exact e
    · rw [upd_ne q] at e ⊢; exact s b x e
  · rw [upd_ne (fun q => h2 (by rw [q]; exact h))]; exact h1
/-- a new cell that is not seen -/
theorem Ext.hid {H V : Hp} {p : Addr} {o : HO} (s : Same V H) (h : H p = none) : Ext H V (upd H p o) V :=
  .of (same_new h) (Same.refl _) (s.trans (same_new h)) fun _ h1 _ => h1
inductive R (α : Type) where
  | ok (a : α)
  | exc (c : Str)
  | bad
def R.bind {α β : Type} (r : R α) (k : α → R β) : R β := match r with
  | .ok a => k a
  | .exc c => .exc c
  | .bad => .bad
instance : Monad R where
  pure := R.ok
  bind := R.bind
/-- a running song: what it was made of, choir and standing now, what was sung, its deeds, what undo needs -/
structure Ob where
  first : PyData
  crew : PyData
  stand : PyData
  sung : List PyData
  deeds : List PyData
  past : List PyData
/-- a slot: nothing, data that may be shared, a list or a dict that this slot alone knows, a running song -/
inductive Sl where
  | no
  | sh (d : PyData)
  | ow (d : PyData)
  | ob (o : Ob)
abbrev Rho := List Sl
def M (α : Type) : Type := Rho → R (α × Rho)
def M.pure {α : Type} (a : α) : M α := fun ρ => .ok (a, ρ)
def M.bind {α β : Type} (f : M α) (k : α → M β) : M β := fun ρ => match f ρ with
  | .ok (a, ρ') => k a ρ'
  | .exc c => .exc c
  | .bad => .bad
instance : Monad M where
  pure := M.pure
  bind := M.bind
/-- an answer, the slots as they are -/
def M.lift {α : Type} (r : R α) : M α := fun ρ => match r with
  | .ok a => .ok (a, ρ)
  | .exc c => .exc c
  | .bad => .bad
def M.opt {α : Type} (r : Option α) : M α := fun ρ => match r with
  | some a => .ok (a, ρ)
  | none => .bad
/-- what is wanted of exceptions; the frame's entry: all of the heap, what is seen; the slot 0's own address, where it is lent -/
structure Fr where
  H0 : Hp
  V0 : Hp
  lent : Option Addr
  W : Value → St → Hp → Prop
  /-- the slot that is lent -/
  ls : Nat
  /-- the running songs that slots may hold -/
  obs : Addr → Prop
theorem ne_ls {i l : Nat} (h : Nat.beq i l = false) : i ≠ l := fun z => by subst z; rw [Nat.beq_refl] at h; cases h
theorem nm_ls {l : Nat} {vs : List Nat} (h : vs.contains l = false) : l ∉ vs := fun z => by
  have := List.contains_iff_mem.mpr z
  rw [h] at this; cases this
def OwnAt (K : KW) (V H : Hp) (a : Addr) : PyData → Prop
  | .list ds => ∃ vs, H a = some (.lst vs) ∧ RepL K V vs ds
  | .dict ps => (∃ kvs, H a = some (.dK kvs) ∧ RepK K V kvs ps ∧ ps ≠ []) ∨ ∃ xs ep, H a = some (dX K.w a xs ep) ∧ RepT K V xs ps
  | _ => False
theorem OwnAt.there {K : KW} {V H : Hp} {a : Addr} {d : PyData} (h : OwnAt K V H a d) : ∃ o, H a = some o ∧ (∀ xs, o ≠ .tup xs) ∧ (∀ u xs, o ≠ .frz u (.tup xs)) ∧ Plain o := by
  cases d with
  | list ds => obtain ⟨vs, e, _⟩ := h; exact ⟨_, e, (fun _ z => nomatch z), (fun _ _ z => nomatch z), plain_lst⟩
  | dict ps =>
    rcases h with ⟨kvs, e, _⟩ | ⟨kvs, ep, e, _⟩
    · exact ⟨_, e, (fun _ z => nomatch z), (fun _ _ z => nomatch z), plain_dK⟩
    · exact ⟨_, e, (fun _ z => nomatch z), (fun _ _ z => nomatch z), plain_dX⟩
  | _ => exact h.elim
theorem OwnAt.plain {K : KW} {V H : Hp} {a : Addr} {d : PyData} (h : OwnAt K V H a d) : ∀ x, H a = some x → Plain x := fun x e => by
  obtain ⟨o, ho, _, _, p⟩ := h.there
  rw [e] at ho; cases ho; exact p
theorem OwnAt.mono {K : KW} {V H V' H' : Hp} {a : Addr} {d : PyData} (h : OwnAt K V H a d) (v : Same V V') (k : ∀ o, H a = some o → nT o → H' a = some o) : OwnAt K V' H' a d := by
  cases d with
  | list ds => obtain ⟨vs, e, r⟩ := h; exact ⟨vs, k _ e plain_lst.t, r.mono v⟩
  | dict ps =>
    rcases h with ⟨kvs, e, r, n⟩ | ⟨kvs, ep, e, r⟩
    · exact .inl ⟨kvs, k _ e plain_dK.t, r.mono v, n⟩
    · exact .inr ⟨kvs, ep, k _ e plain_dX.t, r.mono v⟩
  | _ => exact h.elim
/-- an own thing that is let go of is data like others -/
theorem OwnAt.rep {K : KW} {V H : Hp} {a : Addr} {d : PyData} (h : OwnAt K V H a d) (v : Same V H) : Rep K H (.ref a) d := by
  cases d with
  | list ds => obtain ⟨vs, e, r⟩ := h; exact .lst e (r.mono v)
  | dict ps =>
    rcases h with ⟨kvs, e, r, n⟩ | ⟨kvs, ep, e, r⟩
    · exact .dk (.inl e) (r.mono v) n
    · exact .dt e (r.mono v)
  | _ => exact h.elim
/-- the lists of a running song are its own -/
def obF : List Str := ["sung", "deeds", "past"]
/-- an object's own cells -/
def Foot (H : Hp) (a b : Addr) : Prop := b = a ∨ ∃ C dx fs, H a = some (.ins C dx fs) ∧ (b = dx ∨ ∃ f ∈ obF, fs.lookup f = some (.ref b))
/-- a running song at a: its cells are not seen -/
structure ObAt (K : KW) (V H : Hp) (a : Addr) (o : Ob) : Prop where
  ins : ∃ dx ls ld lp v1 v2 v3 xs ys zs fs, H a = some (.ins (He.ga K.k "Running") dx fs) ∧ H dx = some (.own a) ∧ (fs.lookup ("first" : Str) = some v1 ∧ fs.lookup ("crew" : Str) = some v2 ∧ fs.lookup ("stand" : Str) = some v3 ∧ fs.lookup ("sung" : Str) = some (.ref ls) ∧ fs.lookup ("deeds" : Str) = some (.ref ld) ∧ fs.lookup ("past" : Str) = some (.ref lp)) ∧
    (∀ f, f ∉ (["first", "crew", "stand", "sung", "deeds", "past"] : List Str) → fs.lookup f = none) ∧ fs.length ≤ 20 ∧ (H ls = some (.lst xs) ∧ H ld = some (.lst ys) ∧ H lp = some (.lst zs)) ∧ (ls ≠ ld ∧ ls ≠ lp ∧ ld ≠ lp) ∧
    (Rep K V v1 o.first ∧ Rep K V v2 o.crew ∧ Rep K V v3 o.stand) ∧ RepL K V xs o.sung ∧ RepL K V ys o.deeds ∧ RepL K V zs o.past
  hid : ∀ b, Foot H a b → V b = none
/-- what slots hold of running songs -/
structure ObE (K : KW) (F : Fr) (σ : St) (ρ : Rho) : Prop where
  at_ : ∀ (i : Nat) (o : Ob), ρ[i]? = some (.ob o) → ∃ a, σ[i]? = some (some (.ref a)) ∧ F.obs a ∧ ObAt K F.V0 F.H0 a o
  dis : ∀ (i j : Nat) (a : Addr) (o p : Ob), ρ[i]? = some (.ob o) → ρ[j]? = some (.ob p) → σ[i]? = some (some (.ref a)) → σ[j]? = some (some (.ref a)) → i = j
theorem ObE.sub {K : KW} {F : Fr} {σ σ' : St} {ρ ρ' : Rho} (E : ObE K F σ ρ) (h : ∀ (i : Nat) (o : Ob), ρ'[i]? = some (.ob o) → ρ[i]? = some (.ob o) ∧ σ'[i]? = σ[i]?) : ObE K F σ' ρ' := by
  refine ⟨fun i o e => ?_, fun i j a o p e1 e2 e3 e4 => ?_⟩
  · obtain ⟨h1, h2⟩ := h i o e
    rw [h2]; exact E.at_ i o h1
  · obtain ⟨h1, h2⟩ := h i o e1
    obtain ⟨h3, h4⟩ := h j p e2
    rw [h2] at e3
    rw [h4] at e4
    exact E.dis i j a o p h1 h3 e3 e4
theorem ObE.non {K : KW} {F : Fr} {σ : St} {ρ : Rho} (h : ∀ (i : Nat) (o : Ob), ρ[i]? ≠ some (.ob o)) : ObE K F σ ρ := ⟨fun i o e => absurd e (h i o), fun i _ _ o _ e => absurd e (h i o)⟩
/-- a slot is given what is no running song -/
theorem ObE.set {K : KW} {F : Fr} {σ : St} {ρ : Rho} (E : ObE K F σ ρ) {i : Nat} {x : Option L2.V} {s : Sl} (hs : ∀ o, s ≠ .ob o) : ObE K F (σ.set i x) (ρ.set i s) := E.sub fun j o e => by
  by_cases h : i = j
  · subst h
    by_cases hi : i < ρ.length
    · rw [List.getElem?_set_self hi] at e
      exact absurd (Option.some.inj e) (hs o)
    · rw [List.getElem?_eq_none (by simpa using hi)] at e; cases e
  · rw [List.getElem?_set_ne h] at e ⊢
    exact ⟨e, rfl⟩
theorem ObE.setR {K : KW} {F : Fr} {σ : St} {ρ : Rho} (E : ObE K F σ ρ) {i : Nat} {s : Sl} (hs : ∀ o, s ≠ .ob o) : ObE K F σ (ρ.set i s) := E.sub fun j o e => by
  by_cases h : i = j
  · subst h
    by_cases hi : i < ρ.length
    · rw [List.getElem?_set_self hi] at e
      exact absurd (Option.some.inj e) (hs o)
    · rw [List.getElem?_eq_none (by simpa using hi)] at e; cases e
  · rw [List.getElem?_set_ne h] at e
    exact ⟨e, rfl⟩
structure EnvR (K : KW) (F : Fr) (H V : Hp) (σ : St) (ρ : Rho) : Prop where
  len : σ.length = ρ.length
  ext : Ext F.H0 F.V0 H V
  sh : ∀ (i : Nat) (d : PyData), ρ[i]? = some (.sh d) → ∃ v, σ[i]? = some (some v) ∧ Rep K V v d
  ow : ∀ (i : Nat) (d : PyData), ρ[i]? = some (.ow d) → ∃ a, σ[i]? = some (some (.ref a)) ∧ V a = none ∧ F.H0 a = none ∧ OwnAt K V H a d
  dis : ∀ (i j : Nat) (a : Addr) (d e : PyData), ρ[i]? = some (.ow d) → ρ[j]? = some (.ow e) → σ[i]? = some (some (.ref a)) → σ[j]? = some (some (.ref a)) → i = j
  lent : ∀ a, F.lent = some a → σ[F.ls]? = some (some (.ref a))
  tab : TabV F.H0 F.V0
  ob : ObE K F σ ρ
theorem EnvR.tabs {K : KW} {F : Fr} {H V : Hp} {σ : St} {ρ : Rho} (E : EnvR K F H V σ ρ) : TabV H V := ⟨E.ext.t E.tab.1, fun p hp => E.ext.f p.1 (E.tab.2 p hp) (by
  obtain ⟨ps, h, _⟩ := E.tab.1 p hp
  rw [h]; exact fun z => nomatch z)⟩
def IsOwn (σ : St) (ρ : Rho) (b : Addr) : Prop := ∃ (i : Nat) (d : PyData), ρ[i]? = some (.ow d) ∧ σ[i]? = some (some (.ref b))
/-- what an expression does -/
structure Stp (K : KW) (F : Fr) (σ : St) (ρ ρ' : Rho) (H V H' V' : Hp) : Prop where
  env : EnvR K F H' V' σ ρ'
  v : Same V V'
  keep : ∀ b o, H b = some o → nT o → ¬ IsOwn σ ρ b → H' b = some o
  own : ∀ b, IsOwn σ ρ' b → IsOwn σ ρ b
  shs : ∀ (i : Nat) (d : PyData), ρ'[i]? = some (.sh d) → ρ[i]? = some (.sh d)
  f : ∀ b, V b = none → H b ≠ none → V' b = none
  th : ∀ b, H b ≠ none → H' b ≠ none
section
variable {K : KW} {F : Fr} {σ : St} {ρ ρ1 ρ2 : Rho} {H V H1 V1 H2 V2 : Hp}
theorem Stp.trans (a : Stp K F σ ρ ρ1 H V H1 V1) (b : Stp K F σ ρ1 ρ2 H1 V1 H2 V2) : Stp K F σ ρ ρ2 H V H2 V2 :=
  ⟨b.env, a.v.trans b.v, fun c o e nt n => b.keep c o (a.keep c o e nt n) nt fun q => n (a.own c q), (fun c q => a.own c (b.own c q)), (fun i d q => a.shs i d (b.shs i d q)), (fun c h1 h2 => b.f c (a.f c h1 h2) (a.th c h2)), fun c h => b.th c (a.th c h)⟩
theorem EnvR.grow (E : EnvR K F H V σ ρ) (e : Ext H V H1 V1) : EnvR K F H1 V1 σ ρ := by
  refine ⟨E.len, E.ext.trans e, fun i d h => ?_, fun i d h => ?_, E.dis, E.lent, E.tab, E.ob⟩
  · obtain ⟨v, h1, h2⟩ := E.sh i d h
    exact ⟨v, h1, h2.mono e.v⟩
  · obtain ⟨a, h1, h2, h3, h4⟩ := E.ow i d h
    obtain ⟨o, ho, _⟩ := h4.there
    exact ⟨a, h1, e.f a h2 (by rw [ho]; exact fun q => nomatch q), h3, h4.mono e.v fun o q n => e.h _ _ q n⟩
theorem EnvR.step (E : EnvR K F H V σ ρ) (e : Ext H V H1 V1) : Stp K F σ ρ ρ H V H1 V1 := ⟨E.grow e, e.v, (fun b o q n _ => e.h b o q n), (fun _ q => q), (fun _ _ q => q), e.f, e.th⟩
theorem EnvR.refl (E : EnvR K F H V σ ρ) : Stp K F σ ρ ρ H V H V := ⟨E, Same.refl _, (fun _ _ q _ _ => q), (fun _ q => q), (fun _ _ q => q), (fun _ h _ => h), fun _ h => h⟩
theorem EnvR.sub (E : EnvR K F H V σ ρ) : Same V H := E.ext.s
/-- what is wanted behind an expression -/
def Goal {α β : Type} (K : KW) (F : Fr) (σ : St) (ρ : Rho) (H V : Hp) (rep : Hp → β → α → Prop) (r : R (α × Rho)) (Q : β → Hp → Prop) : Prop := match r with
  | .ok (a, ρ') => ∀ b H' V', Stp K F σ ρ ρ' H V H' V' → rep V' b a → Q b H'
  | .exc c => ∀ H' V', Ext F.H0 F.V0 H' V' → F.W (.ref (He.ga K c)) σ H'
  | .bad => False
theorem Goal.after {α β : Type} {rep : Hp → β → α → Prop} {r : R (α × Rho)} {Q : β → Hp → Prop} (st : Stp K F σ ρ ρ1 H V H1 V1) (g : Goal K F σ ρ H V rep r Q) : Goal K F σ ρ1 H1 V1 rep r Q := by
  cases r with
  | ok p => exact fun b H' V' s => g b H' V' (st.trans s)
  | exc c => exact g
  | bad => exact g
theorem Goal.bind {α β α' β' : Type} {rep1 : Hp → β → α → Prop} {rep2 : Hp → β' → α' → Prop} {f : M α} {k : α → M α'} {Q : β' → Hp → Prop} {Q1 : β → Hp → Prop}
    (g : Goal K F σ ρ H V rep2 (M.bind f k ρ) Q)
    (h : ∀ b a H' V' ρ', Stp K F σ ρ ρ' H V H' V' → rep1 V' b a → Goal K F σ ρ' H' V' rep2 (k a ρ') Q → Q1 b H') : Goal K F σ ρ H V rep1 (f ρ) Q1 := by
  unfold M.bind at g
  cases e : f ρ with
  | ok p =>
    obtain ⟨a, ρ'⟩ := p
    rw [e] at g
    exact fun b H' V' st r => h b a H' V' ρ' st r (Goal.after st g)
  | exc c => rw [e] at g; exact g
  | bad => rw [e] at g; exact g
end
section
variable (K : KW) (F : Fr)
def tM (f : M PyData) : TE := fun σ H Q => ∃ V ρ, EnvR K F H V σ ρ ∧ Goal K F σ ρ H V (Rep K) (f ρ) Q
def tMA (f : M (List PyData)) : TA := fun σ H Q => ∃ V ρ, EnvR K F H V σ ρ ∧ Goal K F σ ρ H V (RepL K) (f ρ) Q
def tMT (f : M Bool) : TT := fun σ H Q => ∃ V ρ, EnvR K F H V σ ρ ∧ Goal K F σ ρ H V (fun _ b a => b = a) (f ρ) Q
end
def PM (X : Cx) (F : Fr) (e : Expr) (f : M PyData) : Prop := PE X e (tM X.kw F f)
def PMA (X : Cx) (F : Fr) (es : List Expr) (f : M (List PyData)) : Prop := PA X es (tMA X.kw F f)
def PMT (X : Cx) (F : Fr) (e : Expr) (f : M Bool) : Prop := PT X e (tMT X.kw F f)
def PMW (X : Cx) (F : Fr) (e : Expr) (f : M Bool) : Prop := PW X e (tMT X.kw F f)
theorem PE.imp {X : Cx} {e : Expr} {t u : TE} (h : PE X e t) (i : ∀ σ H Q, u σ H Q → t σ H Q) : PE X e u := ⟨fun pins s σ H Q I q => h.run pins s σ H Q I (i σ H Q q)⟩
theorem PT.imp {X : Cx} {e : Expr} {t u : TT} (h : PT X e t) (i : ∀ σ H Q, u σ H Q → t σ H Q) : PT X e u := ⟨fun pins s σ H Q I q => h.run pins s σ H Q I (i σ H Q q)⟩
theorem PW.imp {X : Cx} {e : Expr} {t u : TT} (h : PW X e t) (i : ∀ σ H Q, u σ H Q → t σ H Q) : PW X e u := ⟨fun wh pins s σ H Q I q => h.run wh pins s σ H Q I (i σ H Q q)⟩
theorem PA.imp {X : Cx} {e : List Expr} {t u : TA} (h : PA X e t) (i : ∀ σ H Q, u σ H Q → t σ H Q) : PA X e u := ⟨fun pos pins s σ H Q I q => h.run pos pins s σ H Q I (i σ H Q q)⟩
theorem PS.imp {X : Cx} {e : Stmt} {t u : TS} (h : PS X e t) (i : ∀ D σ H, u D σ H → t D σ H) : PS X e u := ⟨fun pins s σ H D I q => h.run pins s σ H D I (i D σ H q)⟩
theorem PSs.imp {X : Cx} {e : List Stmt} {t u : TS} (h : PSs X e t) (i : ∀ D σ H, u D σ H → t D σ H) : PSs X e u := ⟨fun pins s σ H D I q => h.run pins s σ H D I (i D σ H q)⟩
end DL
set_option Elab.async false
set_option linter.all false
set_option maxRecDepth 100000
set_option maxHeartbeats 1000000
namespace DL
open PySem PySem.Spec PyProof.Rows L2
variable [TabCtx]
def LIM : Nat := 1000000
theorem lim_le : LIM ≤ sizeLine := by rw [sizeLine_eq]; decide
theorem lim_lt : LIM < sizeLine := by rw [sizeLine_eq]; decide
def vN (i : Nat) : M PyData := fun ρ => match ρ[i]? with
  | some (.sh d) => .ok (d, ρ)
  | _ => .bad
def cD (d : PyData) : M PyData := M.pure d
def op1 (g : PyData → Option PyData) (a : M PyData) : M PyData := M.bind a fun x => M.opt (g x)
def op2 (g : PyData → PyData → Option PyData) (a b : M PyData) : M PyData := M.bind a fun x => M.bind b fun y => M.opt (g x y)
def aN : M (List PyData) := M.pure []
def aC (a : M PyData) (r : M (List PyData)) : M (List PyData) := M.bind a fun x => M.bind r fun xs => M.pure (x :: xs)
def opA (g : List PyData → Option PyData) (a : M (List PyData)) : M PyData := M.bind a fun ds => M.opt (g ds)
def callM (m : List PyData → R PyData) (a : M (List PyData)) : M PyData := M.bind a fun ds => M.lift (m ds)
def gTupD (ds : List PyData) : Option PyData := if ds.length ≤ LIM then some (.tuple ds) else none
def gLstD (ds : List PyData) : Option PyData := if ds.length ≤ LIM then some (.list ds) else none
def asB : PyData → Option Bool
  | .bool b => some b
  | _ => none
def tst (a : M PyData) : M Bool := M.bind a fun x => M.opt (asB x)
def andT (a b : M Bool) : M Bool := M.bind a fun x => if x = true then b else M.pure false
def orT (a b : M Bool) : M Bool := M.bind a fun x => if x = true then M.pure true else b
def notT (a : M Bool) : M Bool := M.bind a fun x => M.pure (!x)
def andV (a b : M PyData) : M PyData := M.bind a fun x => M.bind (M.opt (asB x)) fun c => if c = true then b else M.pure (.bool false)
def orV (a b : M PyData) : M PyData := M.bind a fun x => M.bind (M.opt (asB x)) fun c => if c = true then M.pure (.bool true) else b
def notV (a : M PyData) : M PyData := op1 (fun x => (asB x).map fun b => .bool (!b)) a
def ifV (t : M Bool) (a b : M PyData) : M PyData := M.bind t fun c => if c = true then a else b
def chain (g g' : PyData → PyData → Option PyData) (a b c : M PyData) : M PyData := M.bind a fun x => M.bind b fun y => M.bind (M.opt ((g x y).bind asB)) fun k => if k = true then M.bind c fun z => M.opt (g' y z) else M.pure (.bool false)
def OpD (K : KW) (r : R2) (g : PyData → PyData → Option PyData) : Prop := ∀ (x y : V) (dx dy z : PyData) (H V : Hp) (Q : VK), Same V H → Rep K V x dx → Rep K V y dy → g dx dy = some z →
  (∀ v H' V', Ext H V H' V' → Rep K V' v z → Q v H') → r x y H Q
def UnD (K : KW) (r : V → Hp → VK → Prop) (g : PyData → Option PyData) : Prop := ∀ (x : V) (dx z : PyData) (H V : Hp) (Q : VK), Same V H → Rep K V x dx → g dx = some z →
  (∀ v H' V', Ext H V H' V' → Rep K V' v z → Q v H') → r x H Q
def CallD (K : KW) (r : List V → Hp → VK → Prop) (g : List PyData → Option PyData) : Prop := ∀ (xs : List V) (ds : List PyData) (z : PyData) (H V : Hp) (Q : VK), Same V H → RepL K V xs ds → g ds = some z →
  (∀ v H' V', Ext H V H' V' → Rep K V' v z → Q v H') → r xs H Q
section
variable {K : KW} {F : Fr} {σ : St} {ρ : Rho} {H V : Hp} {Q : VK}
theorem Goal.opt {α β : Type} {rep : Hp → β → α → Prop} {Q : β → Hp → Prop} {o : Option α} (E : EnvR K F H V σ ρ) (g : Goal K F σ ρ H V rep (M.opt o ρ) Q) : ∃ z, o = some z ∧ ∀ v H' V', Ext H V H' V' → rep V' v z → Q v H' := by
  cases o with
  | none => exact False.elim g
  | some z => exact ⟨z, rfl, fun v H' V' e r => g v H' V' (E.step e) r⟩
theorem Goal.pure {α β : Type} {rep : Hp → β → α → Prop} {Q : β → Hp → Prop} {a : α} (E : EnvR K F H V σ ρ) (g : Goal K F σ ρ H V rep (M.pure a ρ) Q) : ∀ v H' V', Ext H V H' V' → rep V' v a → Q v H' :=
  fun v H' V' e r => g v H' V' (E.step e) r
theorem Goal.pure0 {α β : Type} {rep : Hp → β → α → Prop} {Q : β → Hp → Prop} {a : α} {v : β} (E : EnvR K F H V σ ρ) (g : Goal K F σ ρ H V rep (M.pure a ρ) Q) (r : rep V v a) : Q v H :=
  Goal.pure E g v H V (Ext.refl E.sub) r
end
section
variable {X : Cx} {F : Fr} {e a b c : Expr} {es : List Expr} {pos : Pos} {fa fb fc : M PyData} {fs : M (List PyData)} {ft fu : M Bool}
theorem pm_var (i : Nat) {x : Str} (hN : X.N[i]? = some x := by rfl) (hv : Vis X.env.scope x := by first | exact Or.inl rfl | exact Or.inr (Or.inl rfl) | exact Or.inr (Or.inr rfl)) (hd : (x == ("__debug__" : Str)) = false := by decide)
    (hcd : (x == ("__classdict__" : Str)) = false := by decide) : PM X F (.Name x pos) (vN i) := by
  refine PE.imp (pe_var hN hv hd hcd) fun σ H Q ⟨V, ρ, E, g⟩ => ?_
  unfold vN at g
  cases e : ρ[i]? with
  | none => rw [e] at g; exact False.elim g
  | some s =>
    rw [e] at g
    cases s with
    | sh d =>
      obtain ⟨v, h1, h2⟩ := E.sh i d e
      exact ⟨v, h1, g v H V E.refl h2⟩
    | no => exact False.elim g
    | ob _ => exact False.elim g
    | ow d => exact False.elim g
theorem pm_const {d : PyData} {v : V} (h : PE X e (tC v)) (r : ∀ V, Rep X.kw V v d) : PM X F e (cD d) := PE.imp h fun σ H Q ⟨V, ρ, E, g⟩ => Goal.pure0 E g (r V)
theorem pm_int {i j} : PM X F (.Constant (.int i) j pos) (cD (.int i)) := pm_const pe_int fun _ => .int i
theorem pm_bl {i j} : PM X F (.Constant (.bool i) j pos) (cD (.bool i)) := pm_const pe_bl fun _ => .bl i
theorem pm_non {j} : PM X F (.Constant .none j pos) (cD .none) := pm_const pe_non fun _ => .non
theorem pm_str {i j} : PM X F (.Constant (.str i) j pos) (cD (.str i)) := pm_const pe_str fun _ => .str i
theorem pm_gint {x : Str} {i : Int} (hm : ∃ t, X.mg x = some (.int i t)) (hg : Gl X x := by rfl) (hd : (x == ("__debug__" : Str)) = false := by decide) : PM X F (.Name x pos) (cD (.int i)) := by
  obtain ⟨t, hm⟩ := hm
  exact pm_const (v := .int i) (pe_glob hg hm ⟨t, rfl⟩ hd) fun _ => .int i
theorem pm_gstr {x z : Str} (hm : ∃ t, X.mg x = some (.str z t)) (hg : Gl X x := by rfl) (hd : (x == ("__debug__" : Str)) = false := by decide) : PM X F (.Name x pos) (cD (.str z)) := by
  obtain ⟨t, hm⟩ := hm
  exact pm_const (v := .str z) (pe_glob hg hm ⟨t, rfl⟩ hd) fun _ => .str z
theorem tOp_of {K : KW} {r : R2} {g : PyData → PyData → Option PyData} (od : OpD K r g) {σ : St} {H : Hp} {Q : VK} (h : tM K F (op2 g fa fb) σ H Q) : tOp r (tM K F fa) (tM K F fb) σ H Q := by
  obtain ⟨V, ρ, E, g0⟩ := h
  refine ⟨V, ρ, E, Goal.bind g0 fun x dx H1 V1 ρ1 st1 r1 g1 => ⟨V1, ρ1, st1.env, Goal.bind g1 fun y dy H2 V2 ρ2 st2 r2 g2 => ?_⟩⟩
  obtain ⟨z, ez, q⟩ := Goal.opt st2.env g2
  exact od x y dx dy z H2 V2 Q st2.env.sub (r1.mono st2.v) r2 ez q
theorem pm_op {op : Operator} {r : R2} {g : PyData → PyData → Option PyData} (ho : OpR X (binaryOp op) r) (od : OpD X.kw r g) (ha : PM X F a fa) (hb : PM X F b fb) : PM X F (.BinOp a op b pos) (op2 g fa fb) :=
  PE.imp (pe_op ho ha hb) fun _ _ _ h => tOp_of od h
theorem pm_cmp {op : CmpOp} {r : R2} {g : PyData → PyData → Option PyData} (ho : OpR X (compareOp op) r) (od : OpD X.kw r g) (ha : PM X F a fa) (hb : PM X F b fb) (hm : behindInMarks op b = false := by first | exact nomark _ | rfl) : PM X F (.Compare a [op] [b] pos) (op2 g fa fb) :=
  PE.imp (pe_cmpR ho ha hb hm) fun _ _ _ h => tOp_of od h
theorem pm_ix {r : R2} {g : PyData → PyData → Option PyData} (hr : IxR X r) (od : OpD X.kw r g) (ha : PM X F a fa) (hb : PM X F b fb) (hs : PlainIx b := by exact fun _ _ => rfl) : PM X F (.Subscript a b pos) (op2 g fa fb) :=
  PE.imp (pe_ix hr ha hb hs) fun _ _ _ h => tOp_of od h
theorem pm_un {op : UnaryOp} {r : V → Hp → VK → Prop} {g : PyData → Option PyData} (ho : UnR X (unaryOp op) r) (od : UnD X.kw r g) (ha : PM X F a fa) : PM X F (.UnaryOp op a pos) (op1 g fa) := by
  refine PE.imp (pe_un ho ha) fun σ H Q ⟨V, ρ, E, g0⟩ => ⟨V, ρ, E, Goal.bind g0 fun x dx H1 V1 ρ1 st1 r1 g1 => ?_⟩
  obtain ⟨z, ez, q⟩ := Goal.opt st1.env g1
  exact od x dx z H1 V1 Q st1.env.sub r1 ez q
theorem pma_nil : PMA X F [] aN := PA.imp pa_nil fun σ H Q ⟨V, ρ, E, g⟩ => Goal.pure0 E g .nil
theorem pma_cons (ha : PM X F e fa) (hr : PMA X F es fs) (hs : starEach (e :: es) X.env = (false, eval e X.env) :: starEach es X.env := by rfl) : PMA X F (e :: es) (aC fa fs) := by
  refine PA.imp (pa_cons ha hr hs) fun σ H Q ⟨V, ρ, E, g0⟩ => ⟨V, ρ, E, Goal.bind g0 fun x dx H1 V1 ρ1 st1 r1 g1 => ⟨V1, ρ1, st1.env, Goal.bind g1 fun y dy H2 V2 ρ2 st2 r2 g2 => ?_⟩⟩
  exact Goal.pure0 st2.env g2 (.cons (r1.mono st2.v) r2)
theorem pm_tup {x1} (h : PMA X F es fs) : PM X F (.Tuple es x1 pos) (opA gTupD fs) := by
  refine PE.imp (pe_tup h) fun σ H Q ⟨V, ρ, E, g0⟩ => ⟨V, ρ, E, Goal.bind g0 fun xs ds H1 V1 ρ1 st1 r1 g1 => ?_⟩
  obtain ⟨z, ez, q⟩ := Goal.opt st1.env g1
  unfold gTupD at ez
  split at ez
  · rename_i hl
    cases ez
    exact ⟨by rw [r1.length]; exact Nat.le_trans hl lim_le, fun p hp => q _ _ _ (Ext.new st1.env.sub hp) (.tup upd_same (r1.mono (same_new (st1.env.sub.free hp))))⟩
  · cases ez
theorem pm_lst (h : PMA X F es fs) : PM X F (.List es pos) (opA gLstD fs) := by
  refine PE.imp (pe_lst h) fun σ H Q ⟨V, ρ, E, g0⟩ => ⟨V, ρ, E, Goal.bind g0 fun xs ds H1 V1 ρ1 st1 r1 g1 => ?_⟩
  obtain ⟨z, ez, q⟩ := Goal.opt st1.env g1
  unfold gLstD at ez
  split at ez
  · rename_i hl
    cases ez
    exact ⟨by rw [r1.length]; exact Nat.le_trans hl lim_le, fun p hp => q _ _ _ (Ext.new st1.env.sub hp) (.lst upd_same (r1.mono (same_new (st1.env.sub.free hp))))⟩
  · cases ez
theorem tCB_of {K : KW} {r : List V → Hp → VK → Prop} {g : List PyData → Option PyData} (od : CallD K r g) {σ : St} {H : Hp} {Q : VK} (h : tM K F (opA g fs) σ H Q) : tCB r (tMA K F fs) σ H Q := by
  obtain ⟨V, ρ, E, g0⟩ := h
  refine ⟨V, ρ, E, Goal.bind g0 fun x dx H1 V1 ρ1 st1 r1 g1 => ?_⟩
  obtain ⟨z, ez, q⟩ := Goal.opt st1.env g1
  exact od x dx z H1 V1 Q st1.env.sub r1 ez q
theorem pm_callB {id : String} {x : Str} {p : Pos} {r : List V → Hp → VK → Prop} {g : List PyData → Option PyData} (hc : CallR X (.builtin id) r) (od : CallD X.kw r g) (hm : X.mg x = none) (ha : PMA X F (e :: es) fs) (hv : bootBuiltins x = some (.builtin id) := by decide +kernel) (hg : Gl X x := by rfl)
    (hn : x ≠ "__name__" := by decide) (hdb : (x == ("__debug__" : Str)) = false := by decide)
    (he : starEach (e :: es) X.env = (false, eval e X.env) :: starEach es X.env := by rfl) (hpl : (backTo pos (starEach es X.env)).any (·.1) = false := by rfl) : PM X F (.Call (.Name x p) (e :: es) [] pos) (opA g fs) :=
  PE.imp (pe_callB hc hg hm hv ha hn hdb he hpl) fun _ _ _ h => tCB_of od h
theorem pm_callTy {T : String} {x : Str} {p : Pos} {r : List V → Hp → VK → Prop} {g : List PyData → Option PyData} (hc : CallR X (.type T) r) (od : CallD X.kw r g) (hm : X.mg x = none) (ha : PMA X F (e :: es) fs) (hv : bootBuiltins x = some (.type T) := by decide +kernel) (hg : Gl X x := by rfl)
    (hn : x ≠ "__name__" := by decide) (hdb : (x == ("__debug__" : Str)) = false := by decide)
    (he : starEach (e :: es) X.env = (false, eval e X.env) :: starEach es X.env := by rfl) (hpl : (backTo pos (starEach es X.env)).any (·.1) = false := by rfl) : PM X F (.Call (.Name x p) (e :: es) [] pos) (opA g fs) :=
  PE.imp (pe_callTy hc hg hm hv ha hn hdb he hpl) fun _ _ _ h => tCB_of od h
theorem pmt_val (h : PM X F e fa) (he : ∀ whole, isTrue e X.env whole = (do let v ← whole; standAt e.pos; holding [v] (truthy v)) := by intro _; rfl) : PMT X F e (tst fa) := by
  refine PT.imp (pt_val h he) fun σ H Q ⟨V, ρ, E, g0⟩ => ⟨V, ρ, E, Goal.bind g0 fun x dx H1 V1 ρ1 st1 r1 g1 => ?_⟩
  obtain ⟨z, ez, q⟩ := Goal.opt st1.env g1
  cases r1 with
  | bl b => cases ez; exact ⟨_, rfl, q _ _ _ (Ext.refl st1.env.sub) rfl⟩
  | _ => cases ez
theorem pmt_cmp {op : CmpOp} {r : R2} {g : PyData → PyData → Option PyData} (ho : OpR X (compareOp op) r) (od : OpD X.kw r g) (ha : PM X F a fa) (hb : PM X F b fb) (hm : behindInMarks op b = false := by first | exact nomark _ | rfl) : PMT X F (.Compare a [op] [b] pos) (tst (op2 g fa fb)) := by
  refine PT.imp (pt_cmpR ho ha hb hm) fun σ H Q h => ?_
  have h2 : tM X.kw F (op2 g fa fb) σ H fun x H' => ∃ k, x = .bl k ∧ Q k H' := by
    obtain ⟨V, ρ, E, g0⟩ := h
    refine ⟨V, ρ, E, Goal.bind g0 fun x dx H1 V1 ρ1 st1 r1 g1 => ?_⟩
    obtain ⟨z, ez, q⟩ := Goal.opt st1.env g1
    cases r1 with
    | bl b => cases ez; exact ⟨_, rfl, q _ _ _ (Ext.refl st1.env.sub) rfl⟩
    | _ => cases ez
  exact tOp_of od h2
theorem pmw_and1 (ha : PMT X F a ft) : PMW X F (.BoolOp .And [a] pos) ft := pw_and1 ha
theorem pmw_or1 (ha : PMT X F a ft) : PMW X F (.BoolOp .Or [a] pos) ft := pw_or1 ha
theorem pmw_and {rest : List Expr} (ha : PMT X F a ft) (hb : PMW X F (.BoolOp .And (b :: rest) pos) fu) : PMW X F (.BoolOp .And (a :: b :: rest) pos) (andT ft fu) := by
  refine PW.imp (pw_and ha hb) fun σ H Q ⟨V, ρ, E, g0⟩ => ⟨V, ρ, E, Goal.bind g0 fun x dx H1 V1 ρ1 st1 r1 g1 => ?_⟩
  subst r1
  cases x with
  | true => exact ⟨V1, ρ1, st1.env, g1⟩
  | false => exact Goal.pure0 st1.env g1 rfl
theorem pmw_or {rest : List Expr} (ha : PMT X F a ft) (hb : PMW X F (.BoolOp .Or (b :: rest) pos) fu) : PMW X F (.BoolOp .Or (a :: b :: rest) pos) (orT ft fu) := by
  refine PW.imp (pw_or ha hb) fun σ H Q ⟨V, ρ, E, g0⟩ => ⟨V, ρ, E, Goal.bind g0 fun x dx H1 V1 ρ1 st1 r1 g1 => ?_⟩
  subst r1
  cases x with
  | true => exact Goal.pure0 st1.env g1 rfl
  | false => exact ⟨V1, ρ1, st1.env, g1⟩
theorem pmt_w (h : PMW X F e ft) : PMT X F e ft := PW.pt h
theorem pmt_not (ha : PMT X F a ft) : PMT X F (.UnaryOp .Not a pos) (notT ft) := by
  refine PT.imp (pt_not ha) fun σ H Q ⟨V, ρ, E, g0⟩ => ⟨V, ρ, E, Goal.bind g0 fun x dx H1 V1 ρ1 st1 r1 g1 => ?_⟩
  subst r1
  exact Goal.pure0 st1.env g1 rfl
theorem pm_one {op} (h : PM X F a fa) : PM X F (.BoolOp op [a] pos) fa := pe_one h
theorem pm_and {rest : List Expr} (ha : PM X F a fa) (hb : PM X F (.BoolOp .And (b :: rest) pos) fb) : PM X F (.BoolOp .And (a :: b :: rest) pos) (andV fa fb) := by
  refine PE.imp (pe_and ha hb) fun σ H Q ⟨V, ρ, E, g0⟩ => ⟨V, ρ, E, Goal.bind g0 fun x dx H1 V1 ρ1 st1 r1 g1 => ?_⟩
  cases r1 with
  | bl b =>
    refine ⟨b, rfl, ?_⟩
    cases b with
    | true => exact ⟨V1, ρ1, st1.env, g1⟩
    | false => exact Goal.pure0 st1.env g1 (.bl false)
  | _ => exact False.elim g1
theorem pm_not (ha : PM X F a fa) : PM X F (.UnaryOp .Not a pos) (notV fa) := by
  refine PE.imp (pe_not ha) fun σ H Q ⟨V, ρ, E, g0⟩ => ⟨V, ρ, E, Goal.bind g0 fun x dx H1 V1 ρ1 st1 r1 g1 => ?_⟩
  obtain ⟨z, ez, q⟩ := Goal.opt st1.env g1
  cases r1 with
  | bl b => cases ez; exact ⟨b, rfl, q _ _ _ (Ext.refl st1.env.sub) (.bl _)⟩
  | _ => cases ez
theorem pm_if (hc : PMT X F c ft) (ha : PM X F a fa) (hb : PM X F b fb) : PM X F (.IfExp c a b pos) (ifV ft fa fb) := by
  refine PE.imp (pe_ifExp hc ha hb) fun σ H Q ⟨V, ρ, E, g0⟩ => ⟨V, ρ, E, Goal.bind g0 fun x dx H1 V1 ρ1 st1 r1 g1 => ?_⟩
  subst r1
  cases x with
  | true => exact ⟨V1, ρ1, st1.env, g1⟩
  | false => exact ⟨V1, ρ1, st1.env, g1⟩
theorem tChain_of {K : KW} {r r' : R2} {g g' : PyData → PyData → Option PyData} (od : OpD K r g) (od' : OpD K r' g') {σ : St} {H : Hp} {Q : VK} (h : tM K F (chain g g' fa fb fc) σ H Q) : tChain r r' (tM K F fa) (tM K F fb) (tM K F fc) σ H Q := by
  obtain ⟨V, ρ, E, g0⟩ := h
  refine ⟨V, ρ, E, Goal.bind g0 fun x dx H1 V1 ρ1 st1 r1 g1 => ⟨V1, ρ1, st1.env, Goal.bind g1 fun y dy H2 V2 ρ2 st2 r2 g2 => ?_⟩⟩
  cases e : g dx dy with
  | none =>
    unfold M.bind M.opt at g2
    rw [e] at g2
    exact False.elim g2
  | some w =>
    unfold M.bind at g2
    rw [e] at g2
    cases w with
    | bool k =>
      refine od x y dx dy (.bool k) H2 V2 _ st2.env.sub (r1.mono st2.v) r2 e fun v H3 V3 ex rv => ?_
      have E3 := st2.env.step ex
      have g3 : Goal K F σ ρ2 H2 V2 (Rep K) ((if k = true then M.bind fc fun z => M.opt (g' dy z) else M.pure (.bool false)) ρ2) Q := g2
      cases rv
      refine ⟨k, rfl, ?_⟩
      have g4 := Goal.after E3 g3
      cases k with
      | false => exact Goal.pure0 E3.env g4 (.bl false)
      | true =>
        rw [if_pos rfl]
        refine ⟨V3, ρ2, E3.env, Goal.bind g4 fun z dz H4 V4 ρ4 st4 r4 g5 => ?_⟩
        obtain ⟨z', ez, q⟩ := Goal.opt st4.env g5
        exact od' y z dy dz z' H4 V4 Q st4.env.sub ((r2.mono ex.v).mono st4.v) r4 ez q
    | _ => exact False.elim g2
theorem pm_chain {op op' : CmpOp} {r r' : R2} {g g' : PyData → PyData → Option PyData} (ho : OpR X (compareOp op) r) (od : OpD X.kw r g) (ho' : OpR X (compareOp op') r') (od' : OpD X.kw r' g') (ha : PM X F a fa) (hb : PM X F b fb) (hc : PM X F c fc)
    (hm : lastMarks [op, op'] [b, c] = false := by with_unfolding_all rfl) : PM X F (.Compare a [op, op'] [b, c] pos) (chain g g' fa fb fc) := PE.imp (pe_chain ho ho' ha hb hc hm) fun _ _ _ h => tChain_of od od' h
theorem pmt_chain {op op' : CmpOp} {r r' : R2} {g g' : PyData → PyData → Option PyData} (ho : OpR X (compareOp op) r) (od : OpD X.kw r g) (ho' : OpR X (compareOp op') r') (od' : OpD X.kw r' g') (ha : PM X F a fa) (hb : PM X F b fb) (hc : PM X F c fc)
    (hm : lastMarks [op, op'] [b, c] = false := by with_unfolding_all rfl) : PMT X F (.Compare a [op, op'] [b, c] pos) (tst (chain g g' fa fb fc)) := by
  refine PT.imp (pt_chain ho ho' ha hb hc hm) fun σ H Q h => ?_
  have h2 : tM X.kw F (chain g g' fa fb fc) σ H fun x H' => ∃ k, x = .bl k ∧ Q k H' := by
    obtain ⟨V, ρ, E, g0⟩ := h
    refine ⟨V, ρ, E, Goal.bind g0 fun x dx H1 V1 ρ1 st1 r1 g1 => ?_⟩
    obtain ⟨z, ez, q⟩ := Goal.opt st1.env g1
    cases r1 with
    | bl b => cases ez; exact ⟨_, rfl, q _ _ _ (Ext.refl st1.env.sub) rfl⟩
    | _ => cases ez
  exact tChain_of od od' h2
end
end DL
set_option Elab.async false
set_option linter.all false
set_option maxRecDepth 100000
set_option maxHeartbeats 1000000
namespace DL
open PySem PySem.Spec PyProof.Rows L2
variable [TabCtx]
theorem ite_some {c : Prop} [Decidable c] {a z : PyData} (h : (if c then some a else none) = some z) : c ∧ a = z := by
  by_cases hc : c
  · rw [if_pos hc] at h; exact ⟨hc, Option.some.inj h⟩
  · rw [if_neg hc] at h; cases h
section
variable {K : KW} {H V : Hp}
theorem new_tup {xs : List L2.V} {ds : List PyData} {p : Addr} (s : Same V H) (hp : H p = none) (r : RepL K V xs ds) : Rep K (upd V p (.tup xs)) (.ref p) (.tuple ds) := .tup upd_same (r.mono (same_new (s.free hp)))
theorem new_lst {xs : List L2.V} {ds : List PyData} {p : Addr} (s : Same V H) (hp : H p = none) (r : RepL K V xs ds) : Rep K (upd V p (.lst xs)) (.ref p) (.list ds) := .lst upd_same (r.mono (same_new (s.free hp)))
end
def gAdd : PyData → PyData → Option PyData
  | .int i, .int j => some (.int (i + j))
  | .tuple a, .tuple b => if a.length + b.length ≤ LIM then some (.tuple (a ++ b)) else none
  | .list a, .list b => if a.length + b.length ≤ LIM then some (.list (a ++ b)) else none
  | .str a, .str b => if a.length + b.length ≤ LIM then some (.str (a ++ b)) else none
  | _, _ => none
def rAddD (K : KW) : R2 := fun x y H Q => (rI0 fun i j => .int (i + j)) x y H Q ∨ (rCatA K x y H Q ∨ (rCat x y H Q ∨ ∃ i j, x = .str i ∧ y = .str j ∧ i.length + j.length ≤ sizeLine ∧ Q (.str (i ++ j)) H))
theorem op_addD {X : Cx} : OpR X (binaryOp .Add) (rAddD X.kw) := op_add.or (op_catA.or (op_cat.or op_add_str))
theorem od_add {K : KW} : OpD K (rAddD K) gAdd := by
  intro x y dx dy z H V Q s rx ry e q
  cases rx with
  | int i =>
    cases ry with
    | int j => cases e; exact .inl ⟨i, j, rfl, rfl, q _ _ _ (Ext.refl s) (.int _)⟩
    | _ => cases e
  | str i =>
    cases ry with
    | str j =>
      obtain ⟨hl, rfl⟩ := ite_some e
      exact .inr (.inr (.inr ⟨i, j, rfl, rfl, Nat.le_trans hl lim_le, q _ _ _ (Ext.refl s) (.str _)⟩))
    | _ => cases e
  | @lst a xs ds ha ra =>
    cases ry with
    | @lst b ys es hb rb =>
      obtain ⟨hl, rfl⟩ := ite_some e
      refine .inr (.inr (.inl ⟨a, b, xs, ys, rfl, rfl, s _ _ ha, s _ _ hb, ?_, fun p hp => q _ _ _ (Ext.new s hp) (new_lst s hp (ra.append rb))⟩))
      rw [ra.length, rb.length]; exact Nat.le_trans hl lim_le
    | _ => cases e
  | @tup a xs ds ha ra =>
    cases ry with
    | @tup b ys es hb rb =>
      obtain ⟨hl, rfl⟩ := ite_some e
      refine .inr (.inl ⟨a, b, xs, ys, rfl, rfl, sqt s ha, sqt s hb, ?_, fun hx => ?_, fun hx hy => ?_, fun hx hy p hp => q _ _ _ (Ext.new s hp) (new_tup s hp (ra.append rb))⟩)
      · rw [ra.length, rb.length]; exact Nat.le_trans hl lim_le
      · subst hx; cases ra; exact q _ _ _ (Ext.refl s) (.tup hb rb)
      · subst hy; cases rb; exact q _ _ _ (Ext.refl s) (by rw [List.append_nil]; exact .tup ha ra)
    | _ => cases e
  | _ => cases e
def gSub : PyData → PyData → Option PyData
  | .int i, .int j => some (.int (i - j))
  | _, _ => none
theorem od_sub {K : KW} : OpD K (rI0 fun i j => .int (i - j)) gSub := by
  intro x y dx dy z H V Q s rx ry e q
  cases rx with
  | int i =>
    cases ry with
    | int j => cases e; exact ⟨i, j, rfl, rfl, q _ _ _ (Ext.refl s) (.int _)⟩
    | _ => cases e
  | _ => cases e
def gMod : PyData → PyData → Option PyData
  | .int i, .int j => if 0 < j then some (.int (i % j)) else none
  | _, _ => none
theorem od_mod {K : KW} : OpD K (rI (fun _ j => 0 < j) fun i j => .int (i % j)) gMod := by
  intro x y dx dy z H V Q s rx ry e q
  cases rx with
  | int i =>
    cases ry with
    | int j =>
      obtain ⟨hj, rfl⟩ := ite_some e
      exact ⟨i, j, rfl, rfl, hj, q _ _ _ (Ext.refl s) (.int _)⟩
    | _ => cases e
  | _ => cases e
def gDiv : PyData → PyData → Option PyData
  | .int i, .int j => if 0 < j ∧ j < 2 ^ 200 then some (.int (i / j)) else none
  | _, _ => none
theorem od_div {K : KW} : OpD K (rI CDivW fun i j => .int (i / j)) gDiv := by
  intro x y dx dy z H V Q s rx ry e q
  cases rx with
  | int i =>
    cases ry with
    | int j =>
      obtain ⟨hj, rfl⟩ := ite_some e
      exact ⟨i, j, rfl, rfl, wide_div (b := 200) hj.1 (by have h1 := hj.1; have h2 := hj.2; omega) (by decide) (by decide), q _ _ _ (Ext.refl s) (.int _)⟩
    | _ => cases e
  | _ => cases e
def gMul : PyData → PyData → Option PyData
  | .int i, .int j => if ((-(2 ^ 64) < i ∧ i < 2 ^ 64) ∨ (-(2 ^ 64) < j ∧ j < 2 ^ 64)) ∨ (i.natAbs < 2 ^ 2000 ∧ j.natAbs < 2 ^ 2000) then some (.int (i * j)) else none
  | .list a, .int k => if -(2 ^ 63) ≤ k ∧ k < 2 ^ 63 ∧ a.length * k.toNat ≤ LIM then some (.list (List.replicate k.toNat a).flatten) else none
  | .tuple a, .int k => if a ≠ [] ∧ 1 ≤ k ∧ k ≤ 1000 ∧ a.length ≤ 1000 then some (.tuple (List.replicate k.toNat a).flatten) else none
  | _, _ => none
theorem tuple_mul1 (l : Addr) (items : Array Value) (n : Nat) (dd : Option Addr) (sl : Array (Option Value)) (u : Tok) :
    Meets (Builtin.«tuple.__mul__» ⟨[.ref l, .int 1 u], []⟩) (fun _ R s => s.heap.get? l = some { cls := .type "tuple", dict := dd, data := .seq items n, slots := sl } ∧
      R (.ok (.ret (Value.ref l))) s) :=
  .of_wp fun prog w A R s h => by
    obtain ⟨hp, g, d, tk, os⟩ := s
    obtain ⟨hl, h⟩ := h
    have f1 := AutoSeq1.idx_int
    wp_walk using wpAny_loadPart' hl
    exact ⟨_, rfl, h⟩
def rRepT1 (K : PySem.W.Frag) : R2 := fun x y H Q => ∃ l xs, x = .ref l ∧ y = .int 1 ∧ SqT K H l xs ∧ Q (.ref l) H
theorem op_repT1 {X : Cx} : OpR X (binaryOp .Mult) (rRepT1 X.K) := by
  intro pins s σ H x y v u Q I rx ry h
  obtain ⟨l, xs, rfl, rfl, hT, q⟩ := h
  cases rx
  obtain ⟨t, rfl⟩ := ry
  obtain ⟨its, r, ⟨⟨cls, dd, data, sl⟩, ho, hc, n, hd⟩, hs⟩ := I.tuple hT
  simp only at hc hd
  subst hc hd
  exact wpAny_binaryOp_repeat_ref (T := "tuple") (U := "int") (by decide) ⟨_, ho, rfl⟩ (fun s' => typeIs_int s' 1 t) noFill_tuple_mul F.fills_int_mul F.slot_int_rmul repeat_tuple F.slot_int_index.lookup
    (call_meets F.slot_int_rmul (typeIs_int s 1 t) F.entry_int_rmul (F.args_int_rmul_2 _ _) (int_rmul_tuple 1 t l its.toArray n dd sl)
      ⟨ho, rfl, ⟨_, ho, rfl⟩, call_meets F.slot_tuple_mul ⟨_, ho, rfl⟩ F.entry_tuple_mul (F.args_tuple_mul_2 _ _) (tuple_mul1 l its.toArray n dd sl t) ⟨ho, .ref l, H, I, rfl, q⟩⟩)
def rMulD (K : KW) : R2 := fun x y H Q => (rI CMul fun i j => .int (i * j)) x y H Q ∨ ((rI CMulW fun i j => .int (i * j)) x y H Q ∨ (rRep x y H Q ∨ (rRepT K x y H Q ∨ rRepT1 K x y H Q)))
theorem op_mulD {X : Cx} : OpR X (binaryOp .Mult) (rMulD X.kw) := op_mul.or (op_mulW.or (op_rep.or (op_repT.or op_repT1)))
theorem od_mul {K : KW} : OpD K (rMulD K) gMul := by
  intro x y dx dy z H V Q s rx ry e q
  cases rx with
  | int i =>
    cases ry with
    | int j =>
      obtain ⟨hj, rfl⟩ := ite_some e
      rcases hj with hj | hj
      · exact .inl ⟨i, j, rfl, rfl, hj, q _ _ _ (Ext.refl s) (.int _)⟩
      · exact .inr (.inl ⟨i, j, rfl, rfl, wide_mul hj.1 hj.2 (by decide) (by decide) (by decide), q _ _ _ (Ext.refl s) (.int _)⟩)
    | _ => cases e
  | @lst a xs ds ha ra =>
    cases ry with
    | int k =>
      obtain ⟨hl, rfl⟩ := ite_some e
      exact .inr (.inr (.inl ⟨a, k, xs, rfl, rfl, s _ _ ha, hl.1, hl.2.1, by rw [ra.length]; exact Nat.le_trans hl.2.2 lim_le, fun p hp => q _ _ _ (Ext.new s hp) (new_lst s hp (ra.rep _))⟩))
    | _ => cases e
  | @tup a xs ds ha ra =>
    cases ry with
    | int k =>
      obtain ⟨hl, rfl⟩ := ite_some e
      by_cases hk : k = 1
      · subst hk
        refine .inr (.inr (.inr (.inr ⟨a, xs, rfl, rfl, sqt s ha, q _ _ _ (Ext.refl s) ?_⟩)))
        have e1 : (List.replicate (1 : Int).toNat ds).flatten = ds := by simp
        rw [e1]
        exact .tup ha ra
      · refine .inr (.inr (.inr (.inl ⟨a, k, xs, rfl, rfl, sqt s ha, fun h => hl.1 ?_, by have := hl.2.1; omega, hl.2.2.1, by rw [ra.length]; exact hl.2.2.2, fun p hp => q _ _ _ (Ext.new s hp) (new_tup s hp (ra.rep _))⟩)))
        subst h; cases ra; rfl
    | _ => cases e
  | _ => cases e
def gPow : PyData → PyData → Option PyData
  | .int i, .int j => if 0 ≤ j ∧ j ≤ 1000 ∧ i.natAbs < 2 ^ 64 then some (.int (i ^ j.toNat)) else none
  | _, _ => none
theorem od_pow {K : KW} : OpD K (rI CPow fun i j => .int (i ^ j.toNat)) gPow := by
  intro x y dx dy z H V Q s rx ry e q
  cases rx with
  | int i =>
    cases ry with
    | int j =>
      obtain ⟨hj, rfl⟩ := ite_some e
      exact ⟨i, j, rfl, rfl, ⟨hj.1, by have := hj.2.1; omega, hj.2.2⟩, q _ _ _ (Ext.refl s) (.int _)⟩
    | _ => cases e
  | _ => cases e
def gNeg : PyData → Option PyData
  | .int i => some (.int (-i))
  | _ => none
theorem od_neg {K : KW} : UnD K (rU fun i => .int (-i)) gNeg := by
  intro x dx z H V Q s rx e q
  cases rx with
  | int i => cases e; exact ⟨i, rfl, q _ _ _ (Ext.refl s) (.int _)⟩
  | _ => cases e
def gCmpI (p : Int → Int → Bool) : PyData → PyData → Option PyData
  | .int i, .int j => some (.bool (p i j))
  | _, _ => none
theorem od_cmpI {K : KW} {p : Int → Int → Bool} : OpD K (rI0 fun i j => .bl (p i j)) (gCmpI p) := by
  intro x y dx dy z H V Q s rx ry e q
  cases rx with
  | int i =>
    cases ry with
    | int j => cases e; exact ⟨i, j, rfl, rfl, q _ _ _ (Ext.refl s) (.bl _)⟩
    | _ => cases e
  | _ => cases e
def gLe := gCmpI fun i j => decide (i ≤ j)
def gGt := gCmpI fun i j => decide (j < i)
def gGe := gCmpI fun i j => decide (j ≤ i)
theorem od_le {K : KW} : OpD K (rI0 fun i j => .bl (decide (i ≤ j))) gLe := od_cmpI
theorem od_gt {K : KW} : OpD K (rI0 fun i j => .bl (decide (j < i))) gGt := od_cmpI
theorem od_ge {K : KW} : OpD K (rI0 fun i j => .bl (decide (j ≤ i))) gGe := od_cmpI
def gEq (x y : PyData) : Option PyData := if (SeqAt.shaped x && SeqAt.shaped y) = true then some (.bool (PyData.eqv x y)) else none
def gNe (x y : PyData) : Option PyData := if (SeqAt.shaped x && SeqAt.shaped y) = true then some (.bool (!PyData.eqv x y)) else none
theorem od_eq {K : KW} : OpD K (rEqD K) gEq := by
  intro x y dx dy z H V Q s rx ry e q
  obtain ⟨h, rfl⟩ := ite_some e
  obtain ⟨h1, h2⟩ := Bool.and_eq_true_iff.mp h
  exact ⟨dx, dy, (rx.mono s).dp (SeqAt.canLay_of_shaped h1), (ry.mono s).dp (SeqAt.canLay_of_shaped h2), h1, h2, q _ _ _ (Ext.refl s) (.bl _)⟩
theorem od_ne {K : KW} : OpD K (rNeD K) gNe := by
  intro x y dx dy z H V Q s rx ry e q
  obtain ⟨h, rfl⟩ := ite_some e
  obtain ⟨h1, h2⟩ := Bool.and_eq_true_iff.mp h
  exact ⟨dx, dy, (rx.mono s).dp (SeqAt.canLay_of_shaped h1), (ry.mono s).dp (SeqAt.canLay_of_shaped h2), h1, h2, q _ _ _ (Ext.refl s) (.bl _)⟩
def isNone : PyData → Bool
  | .none => true
  | _ => false
def gIs : PyData → PyData → Option PyData
  | x, .none => some (.bool (isNone x))
  | .bool a, .bool b => some (.bool (decide (a = b)))
  | _, _ => none
def gIsNot : PyData → PyData → Option PyData
  | x, .none => some (.bool (!isNone x))
  | .bool a, .bool b => some (.bool (!decide (a = b)))
  | _, _ => none
theorem isNone_rep {K : KW} {V : Hp} {x : L2.V} {d : PyData} (r : Rep K V x d) : decide (x = .non) = isNone d := by
  cases r <;> rfl
def rIsD : R2 := fun x y H Q => (y = .non ∧ Q (.bl (decide (x = .non))) H) ∨ ∃ a b, x = .bl a ∧ y = .bl b ∧ Q (.bl (decide (a = b))) H
def rIsNotD : R2 := fun x y H Q => (y = .non ∧ Q (.bl (!decide (x = .non))) H) ∨ ∃ a b, x = .bl a ∧ y = .bl b ∧ Q (.bl (!decide (a = b))) H
theorem op_isD {X : Cx} : OpR X (compareOp .Is) rIsD := op_isN.or op_is_bl
theorem op_isNotD {X : Cx} : OpR X (compareOp .IsNot) rIsNotD := op_notN.or op_isnot_bl
theorem od_is {K : KW} : OpD K rIsD gIs := by
  intro x y dx dy z H V Q s rx ry e q
  cases ry with
  | non =>
    have e2 : z = .bool (isNone dx) := by cases dx <;> exact (Option.some.inj e).symm
    subst e2
    exact .inl ⟨rfl, by rw [isNone_rep rx]; exact q _ _ _ (Ext.refl s) (.bl _)⟩
  | bl b =>
    cases rx with
    | bl a => cases e; exact .inr ⟨a, b, rfl, rfl, q _ _ _ (Ext.refl s) (.bl _)⟩
    | _ => cases e
  | _ => cases rx <;> cases e
theorem od_isNot {K : KW} : OpD K rIsNotD gIsNot := by
  intro x y dx dy z H V Q s rx ry e q
  cases ry with
  | non =>
    have e2 : z = .bool (!isNone dx) := by cases dx <;> exact (Option.some.inj e).symm
    subst e2
    exact .inl ⟨rfl, by rw [isNone_rep rx]; exact q _ _ _ (Ext.refl s) (.bl _)⟩
  | bl b =>
    cases rx with
    | bl a => cases e; exact .inr ⟨a, b, rfl, rfl, q _ _ _ (Ext.refl s) (.bl _)⟩
    | _ => cases e
  | _ => cases rx <;> cases e
def gIn : PyData → PyData → Option PyData
  | x, .list ds => if (SeqAt.shaped x && SeqAt.shaped (.list ds)) = true then some (.bool (ds.any fun z => PyData.eqv z x)) else none
  | x, .tuple ds => if (SeqAt.shaped x && SeqAt.shaped (.tuple ds)) = true then some (.bool (ds.any fun z => PyData.eqv z x)) else none
  | .str x, .str z => match x.cps.toList with
    | [c] => some (.bool (decide (c ∈ z.cps.toList)))
    | _ => none
  | _, _ => none
def gNotIn : PyData → PyData → Option PyData
  | x, .list ds => if (SeqAt.shaped x && SeqAt.shaped (.list ds)) = true then some (.bool (!ds.any fun z => PyData.eqv z x)) else none
  | x, .tuple ds => if (SeqAt.shaped x && SeqAt.shaped (.tuple ds)) = true then some (.bool (!ds.any fun z => PyData.eqv z x)) else none
  | _, _ => none
/-- in a tuple -/
def rInT (K : KW) : R2 := fun x y H Q => ∃ dx es, Dp K H x dx ∧ Dp K H y (.tuple es) ∧ SeqAt.shaped dx = true ∧ SeqAt.shaped (.tuple es) = true ∧ Q (.bl (es.any fun z => PyData.eqv z dx)) H
def rNotInT (K : KW) : R2 := fun x y H Q => ∃ dx es, Dp K H x dx ∧ Dp K H y (.tuple es) ∧ SeqAt.shaped dx = true ∧ SeqAt.shaped (.tuple es) = true ∧ Q (.bl (!es.any fun z => PyData.eqv z dx)) H
theorem op_inT {X : Cx} (hu : X.A.units + 65 < cLine) : OpR X (compareOp .In) (rInT X.kw) := by
  intro pins s σ H x y v u Q I rx ry ⟨dx, es, h1, h2, s1, s2, q⟩
  obtain ⟨as, r1⟩ := Dp.reads I dx x v h1 rx
  obtain ⟨bs, r2⟩ := Dp.reads I (.tuple es) y u h2 ry
  exact SeqAt.in_tuple_reads r2 r1 (by have := SeqAt.canLay_of_shaped s2; rw [PyData.canLay0] at this; exact this) (SeqAt.canLay_of_shaped s1) (room_in_shaped s1 hu) ⟨.bl _, H, I, rfl, q⟩
theorem op_notInT {X : Cx} (hu : X.A.units + 65 < cLine) : OpR X (compareOp .NotIn) (rNotInT X.kw) := by
  intro pins s σ H x y v u Q I rx ry ⟨dx, es, h1, h2, s1, s2, q⟩
  obtain ⟨as, r1⟩ := Dp.reads I dx x v h1 rx
  obtain ⟨bs, r2⟩ := Dp.reads I (.tuple es) y u h2 ry
  exact SeqAt.notIn_tuple_reads r2 r1 (by have := SeqAt.canLay_of_shaped s2; rw [PyData.canLay0] at this; exact this) (SeqAt.canLay_of_shaped s1) (room_in_shaped s1 hu) ⟨.bl _, H, I, rfl, q⟩
def rSign : R2 := fun x y H Q => ∃ (c : Nat) (z : Str), x = .str ⟨#[c]⟩ ∧ y = .str z ∧ Q (.bl (decide (c ∈ z.cps.toList))) H
def rInAll (K : KW) : R2 := fun x y H Q => rInD K x y H Q ∨ (rInT K x y H Q ∨ rSign x y H Q)
theorem op_inAll {X : Cx} (hu : X.A.units + 65 < cLine) : OpR X (compareOp .In) (rInAll X.kw) := (op_inD hu).or ((op_inT hu).or op_in_sign)
def rNotInAll (K : KW) : R2 := fun x y H Q => rNotInD K x y H Q ∨ rNotInT K x y H Q
theorem op_notInAll {X : Cx} (hu : X.A.units + 65 < cLine) : OpR X (compareOp .NotIn) (rNotInAll X.kw) := (op_notInD hu).or (op_notInT hu)
theorem od_in {K : KW} : OpD K (rInAll K) gIn := by
  intro x y dx dy z H V Q s rx ry e q
  cases ry with
  | @lst a xs ds ha ra =>
    have e2 : (if (SeqAt.shaped dx && SeqAt.shaped (.list ds)) = true then some (PyData.bool (ds.any fun z => PyData.eqv z dx)) else none) = some z := by cases dx <;> exact e
    obtain ⟨h, rfl⟩ := ite_some e2
    obtain ⟨h1, h2⟩ := Bool.and_eq_true_iff.mp h
    exact .inl ⟨dx, ds, (rx.mono s).dp (SeqAt.canLay_of_shaped h1), ((Rep.lst ha ra).mono s).dp (SeqAt.canLay_of_shaped h2), h1, h2, q _ _ _ (Ext.refl s) (.bl _)⟩
  | @tup a xs ds ha ra =>
    have e2 : (if (SeqAt.shaped dx && SeqAt.shaped (.tuple ds)) = true then some (PyData.bool (ds.any fun z => PyData.eqv z dx)) else none) = some z := by cases dx <;> exact e
    obtain ⟨h, rfl⟩ := ite_some e2
    obtain ⟨h1, h2⟩ := Bool.and_eq_true_iff.mp h
    exact .inr (.inl ⟨dx, ds, (rx.mono s).dp (SeqAt.canLay_of_shaped h1), ((Rep.tup ha ra).mono s).dp (SeqAt.canLay_of_shaped h2), h1, h2, q _ _ _ (Ext.refl s) (.bl _)⟩)
  | str w =>
    cases rx with
    | str u =>
      obtain ⟨l⟩ := u
      obtain ⟨l⟩ := l
      match l, e with
      | [c], e =>
        cases e
        exact .inr (.inr ⟨c, w, rfl, rfl, q _ _ _ (Ext.refl s) (.bl _)⟩)
      | [], e => cases e
      | _ :: _ :: _, e => cases e
    | _ => cases e
  | _ => cases rx <;> cases e
theorem od_notIn {K : KW} : OpD K (rNotInAll K) gNotIn := by
  intro x y dx dy z H V Q s rx ry e q
  cases ry with
  | @lst a xs ds ha ra =>
    have e2 : (if (SeqAt.shaped dx && SeqAt.shaped (.list ds)) = true then some (PyData.bool (!ds.any fun z => PyData.eqv z dx)) else none) = some z := by cases dx <;> exact e
    obtain ⟨h, rfl⟩ := ite_some e2
    obtain ⟨h1, h2⟩ := Bool.and_eq_true_iff.mp h
    exact .inl ⟨dx, ds, (rx.mono s).dp (SeqAt.canLay_of_shaped h1), ((Rep.lst ha ra).mono s).dp (SeqAt.canLay_of_shaped h2), h1, h2, q _ _ _ (Ext.refl s) (.bl _)⟩
  | @tup a xs ds ha ra =>
    have e2 : (if (SeqAt.shaped dx && SeqAt.shaped (.tuple ds)) = true then some (PyData.bool (!ds.any fun z => PyData.eqv z dx)) else none) = some z := by cases dx <;> exact e
    obtain ⟨h, rfl⟩ := ite_some e2
    obtain ⟨h1, h2⟩ := Bool.and_eq_true_iff.mp h
    exact .inr ⟨dx, ds, (rx.mono s).dp (SeqAt.canLay_of_shaped h1), ((Rep.tup ha ra).mono s).dp (SeqAt.canLay_of_shaped h2), h1, h2, q _ _ _ (Ext.refl s) (.bl _)⟩
  | _ => cases rx <;> cases e
def atD (ds : List PyData) (i : Int) : Option PyData := if 0 ≤ i then ds[i.toNat]? else if -(ds.length : Int) ≤ i then ds[(i + ds.length).toNat]? else none
def gIx : PyData → PyData → Option PyData
  | .list ds, .int i => atD ds i
  | .tuple ds, .int i => atD ds i
  | _, _ => none
theorem atD_get {K : KW} {V : Hp} {xs : List L2.V} {ds : List PyData} {i : Int} {z : PyData} (r : RepL K V xs ds) (h : atD ds i = some z) : ∃ v, atI xs i = some v ∧ Rep K V v z := by
  unfold atD at h
  unfold atI ixN
  have hl := r.length
  by_cases h0 : 0 ≤ i
  · rw [if_pos h0] at h ⊢
    obtain ⟨hlt, _⟩ := List.getElem?_eq_some_iff.mp h
    obtain ⟨v, h1, h2⟩ := r.get _ h
    rw [if_pos (by omega)]
    exact ⟨v, h1, h2⟩
  · rw [if_neg h0] at h ⊢
    by_cases hn : -(ds.length : Int) ≤ i
    · rw [if_pos hn] at h
      rw [if_pos (by omega)]
      obtain ⟨v, h1, h2⟩ := r.get _ h
      exact ⟨v, by rw [hl]; exact h1, h2⟩
    · rw [if_neg hn] at h; cases h
theorem od_ix {K : KW} : OpD K (rIx K) gIx := by
  intro x y dx dy z H V Q s rx ry e q
  cases rx with
  | @lst a xs ds ha ra =>
    cases ry with
    | int i =>
      obtain ⟨v, h1, h2⟩ := atD_get ra e
      exact .inl ⟨a, xs, i, v, rfl, rfl, .inl (.inl (s _ _ ha)), h1, q _ _ _ (Ext.refl s) h2⟩
    | _ => cases e
  | @tup a xs ds ha ra =>
    cases ry with
    | int i =>
      obtain ⟨v, h1, h2⟩ := atD_get ra e
      exact .inr (.inl ⟨a, xs, i, v, rfl, rfl, sqt s ha, h1, q _ _ _ (Ext.refl s) h2⟩)
    | _ => cases e
  | _ => cases ry <;> cases e
def cutD (ds : List PyData) (lo hi : Option Int) : List PyData := (ds.drop (HT.sIx ds.length 0 lo)).take (HT.sIx ds.length ds.length hi - HT.sIx ds.length 0 lo)
theorem cut_rep {K : KW} {V : Hp} {xs : List L2.V} {ds : List PyData} (r : RepL K V xs ds) (lo hi : Option Int) : RepL K V (cutV xs lo hi) (cutD ds lo hi) := by
  unfold cutV cutD
  rw [r.length]
  exact (r.drop _).take _
def gCut (lo hi : Option Int) : PyData → Option PyData
  | .list ds => some (.list (cutD ds lo hi))
  | .tuple ds => some (.tuple (cutD ds lo hi))
  | _ => none
def asI : PyData → Option Int
  | .int i => some i
  | _ => none
/-- a part of a slice -/
def prt (a : M PyData) : M (Option Int) := M.bind a fun x => M.bind (M.opt (asI x)) fun i => M.pure (some i)
def noPrt : M (Option Int) := M.pure none
def slc (a : M PyData) (lo hi : M (Option Int)) : M PyData := M.bind a fun x => M.bind lo fun l => M.bind hi fun h => M.opt (gCut l h x)
def tMO (K : KW) (F : Fr) (f : M (Option Int)) : TO := fun σ H Q => ∃ V ρ, EnvR K F H V σ ρ ∧ Goal K F σ ρ H V (fun _ b a => b = a) (f ρ) Q
def PMO (X : Cx) (F : Fr) (e : Option Expr) (f : M (Option Int)) : Prop := PO X e (tMO X.kw F f)
theorem PO.imp {X : Cx} {e : Option Expr} {t u : TO} (h : PO X e t) (i : ∀ σ H Q, u σ H Q → t σ H Q) : PO X e u := by
  obtain ⟨r⟩ := h
  exact ⟨fun pins s σ H Q I q => r pins s σ H Q I (i σ H Q q)⟩
section
variable {X : Cx} {F : Fr} {e : Expr} {fa : M PyData} {fl fh : M (Option Int)}
theorem pmo_none : PMO X F none noPrt := PO.imp po_none fun σ H Q ⟨V, ρ, E, g⟩ => Goal.pure0 E g rfl
theorem pmo_some (h : PM X F e fa) : PMO X F (some e) (prt fa) := by
  refine PO.imp (po_some h) fun σ H Q ⟨V, ρ, E, g0⟩ => ⟨V, ρ, E, Goal.bind g0 fun x dx H1 V1 ρ1 st1 r1 g1 => ?_⟩
  cases r1 with
  | int i => exact ⟨i, rfl, Goal.pure0 st1.env g1 rfl⟩
  | _ => exact False.elim g1
theorem pm_slice {lo hi : Option Expr} {p2 pos : Pos} (he : PM X F e fa) (hl : PMO X F lo fl) (hh : PMO X F hi fh) : PM X F (.Subscript e (.Slice lo hi none p2) pos) (slc fa fl fh) := by
  refine PE.imp (pe_slice (sl_list.or sl_tupA) he hl hh) fun σ H Q ⟨V, ρ, E, g0⟩ => ⟨V, ρ, E, Goal.bind g0 fun x dx H1 V1 ρ1 st1 r1 g1 =>
    ⟨V1, ρ1, st1.env, Goal.bind g1 fun l l' H2 V2 ρ2 st2 r2 g2 => ⟨V2, ρ2, st2.env, Goal.bind g2 fun h h' H3 V3 ρ3 st3 r3 g3 => ?_⟩⟩⟩
  subst r2 r3
  obtain ⟨z, ez, q⟩ := Goal.opt st3.env g3
  have rx := (r1.mono st2.v).mono st3.v
  have s := st3.env.sub
  cases rx with
  | @lst a xs ds ha ra =>
    cases ez
    exact .inl ⟨a, xs, rfl, .inl (.inl (s _ _ ha)), fun p hp => q _ _ _ (Ext.new s hp) (new_lst s hp (cut_rep ra l h))⟩
  | @tup a xs ds ha ra =>
    cases ez
    refine .inr ⟨a, xs, rfl, sqt s ha, fun hw => ?_, fun hw p hp => q _ _ _ (Ext.new s hp) (new_tup s hp (cut_rep ra l h))⟩
    refine q _ _ _ (Ext.refl s) ?_
    have e2 : cutD ds l h = ds := by
      unfold cutD
      rw [← ra.length, hw.1, hw.2, List.drop_zero, Nat.sub_zero, ra.length]
      exact List.take_length
    rw [e2]
    exact .tup ha ra
  | _ => cases ez
end
def gLen : List PyData → Option PyData
  | [.list ds] => some (.int ds.length)
  | [.tuple ds] => some (.int ds.length)
  | [.str x] => if x.length ≤ LIM then some (.int x.length) else none
  | _ => none
theorem cd_len {K : KW} : CallD K (fun xs H Q => ∃ x n, xs = [x] ∧ LenV K x H n ∧ Q (.int n) H) gLen := by
  intro xs ds z H V Q s r e q
  cases r with
  | nil => cases e
  | cons r1 r2 =>
    cases r2 with
    | cons _ _ => cases r1 <;> cases e
    | nil =>
      cases r1 with
      | @lst a ys es ha ra => cases e; exact ⟨_, ys.length, rfl, .inl ⟨ys, .inl (.inl (s _ _ ha)), rfl⟩, by rw [ra.length]; exact q _ _ _ (Ext.refl s) (.int _)⟩
      | @tup a ys es ha ra => cases e; exact ⟨_, ys.length, rfl, .inr ⟨ys, sqt s ha, rfl⟩, by rw [ra.length]; exact q _ _ _ (Ext.refl s) (.int _)⟩
      | str x =>
        obtain ⟨h, rfl⟩ := ite_some e
        exact ⟨_, _, rfl, ⟨Nat.le_trans h lim_le, rfl⟩, q _ _ _ (Ext.refl s) (.int _)⟩
      | _ => cases e
end DL
set_option Elab.async false
set_option linter.all false
set_option maxRecDepth 100000
set_option maxHeartbeats 1000000
namespace DL
open PySem PySem.Spec PyProof.Rows L2
variable [TabCtx]
inductive O where
  | nx (ρ : Rho)
  | rt (d : PyData) (ρ : Rho)
  | rf (d : PyData) (ρ : Rho)
  | bk (ρ : Rho)
  | ct (ρ : Rho)
  | exc (c : Str)
  | bad
abbrev SM := Rho → O
def seqO (f g : SM) : SM := fun ρ => match f ρ with
  | .nx ρ' => g ρ'
  | o => o
def nxO : SM := fun ρ => .nx ρ
section
variable {K : KW} {F : Fr} {σ : St} {ρ ρ1 : Rho} {H V H1 V1 : Hp}
/-- a value that is new since the frame began -/
def Fsh (F : Fr) (v : L2.V) : Prop := ∀ p, v = .ref p → F.H0 p = none ∧ F.lent ≠ some p
/-- what is wanted behind a statement -/
def GoalS (K : KW) (F : Fr) (V : Hp) (o : O) (D : Ends) : Prop := match o with
  | .nx ρ' => ∀ σ' H' V', EnvR K F H' V' σ' ρ' → Same V V' → D.nx σ' H'
  | .rt d ρ' => ∀ v σ' H' V', EnvR K F H' V' σ' ρ' → Same V V' → Rep K V' v d → D.rt v H'
  | .rf d ρ' => ∀ v σ' H' V', EnvR K F H' V' σ' ρ' → Same V V' → Rep K V' v d → Fsh F v → D.rt v H'
  | .bk ρ' => ∀ σ' H' V', EnvR K F H' V' σ' ρ' → Same V V' → D.bk σ' H'
  | .ct ρ' => ∀ σ' H' V', EnvR K F H' V' σ' ρ' → Same V V' → D.ct σ' H'
  | .exc c => ∀ σ' H' V', Ext F.H0 F.V0 H' V' → F.W (.ref (He.ga K c)) σ' H'
  | .bad => False
def tS (K : KW) (F : Fr) (f : SM) : TS := fun D σ H => ∃ V ρ, EnvR K F H V σ ρ ∧ GoalS K F V (f ρ) D
theorem GoalS.mono {o : O} {D : Ends} (v : Same V V1) (g : GoalS K F V o D) : GoalS K F V1 o D := by
  cases o with
  | nx ρ' => exact fun σ' H' V' E s => g σ' H' V' E (v.trans s)
  | rt d ρ' => exact fun x σ' H' V' E s => g x σ' H' V' E (v.trans s)
  | rf d ρ' => exact fun x σ' H' V' E s => g x σ' H' V' E (v.trans s)
  | bk ρ' => exact fun σ' H' V' E s => g σ' H' V' E (v.trans s)
  | ct ρ' => exact fun σ' H' V' E s => g σ' H' V' E (v.trans s)
  | exc c => exact g
  | bad => exact g
/-- an expression ahead of a statement's end -/
def exO {α : Type} (f : M α) (k : α → SM) : SM := fun ρ => match f ρ with
  | .ok (a, ρ') => k a ρ'
  | .exc c => .exc c
  | .bad => .bad
theorem Goal.ex {α β : Type} {rep1 : Hp → β → α → Prop} {f : M α} {k : α → SM} {D : Ends} {Q1 : β → Hp → Prop}
    (g : GoalS K F V (exO f k ρ) D)
    (h : ∀ b a H' V' ρ', Stp K F σ ρ ρ' H V H' V' → rep1 V' b a → GoalS K F V' (k a ρ') D → Q1 b H') : Goal K F σ ρ H V rep1 (f ρ) Q1 := by
  unfold exO at g
  cases e : f ρ with
  | ok p =>
    obtain ⟨a, ρ'⟩ := p
    rw [e] at g
    exact fun b H' V' st r => h b a H' V' ρ' st r (GoalS.mono st.v g)
  | exc c => rw [e] at g; exact fun H' V' x => g σ H' V' x
  | bad => rw [e] at g; exact g
end
def PMS (X : Cx) (F : Fr) (st : Stmt) (f : SM) : Prop := PS X st (tS X.kw F f)
def PMSs (X : Cx) (F : Fr) (st : List Stmt) (f : SM) : Prop := PSs X st (tS X.kw F f)
section
variable {X : Cx} {F : Fr} {st : Stmt} {rest sts : List Stmt} {f g : SM} {e : Expr} {fa : M PyData} {ft : M Bool} {pos : Pos}
theorem pms_nil : PMSs X F [] nxO := PSs.imp pss_nil fun D σ H ⟨V, ρ, E, g⟩ => g σ H V E (Same.refl _)
theorem pms_cons (h1 : PMS X F st f) (h2 : PMSs X F rest g) : PMSs X F (st :: rest) (seqO f g) := by
  refine PSs.imp (pss_cons h1 h2) fun D σ H ⟨V, ρ, E, g0⟩ => ⟨V, ρ, E, ?_⟩
  unfold seqO at g0
  cases e : f ρ with
  | nx ρ' => rw [e] at g0; exact fun σ' H' V' E' v => ⟨V', ρ', E', GoalS.mono v g0⟩
  | rt d ρ' => rw [e] at g0; exact g0
  | rf d ρ' => rw [e] at g0; exact g0
  | bk ρ' => rw [e] at g0; exact g0
  | ct ρ' => rw [e] at g0; exact g0
  | exc c => rw [e] at g0; exact g0
  | bad => rw [e] at g0; exact g0
theorem pms_one (h1 : PMS X F st f) : PMSs X F [st] f := pss_one h1
def dropO (a : M PyData) : SM := exO a fun _ => nxO
theorem pms_expr (h : PM X F e fa) (hs : swapsWith e none pos.line X.env = pure false := by rfl) : PMS X F (.Expr e pos) (dropO fa) :=
  PS.imp (ps_expr h hs) fun D σ H ⟨V, ρ, E, g⟩ => ⟨V, ρ, E, Goal.ex g fun v d H1 V1 ρ1 st1 r1 g1 => g1 σ H1 V1 st1.env (Same.refl _)⟩
def retO (a : M PyData) : SM := exO a fun d ρ => .rt d ρ
theorem pms_ret (h : PM X F e fa) : PMS X F (.Return (some e) pos) (retO fa) :=
  PS.imp (ps_ret h) fun D σ H ⟨V, ρ, E, g⟩ => ⟨V, ρ, E, Goal.ex g fun v d H1 V1 ρ1 st1 r1 g1 => g1 v σ H1 V1 st1.env (Same.refl _) r1⟩
def ifO (t : M Bool) (f g : SM) : SM := exO t fun b => if b = true then f else g
theorem pms_if {c : Expr} {a b : List Stmt} (hc : PMT X F c ft) (ha : PMSs X F a f) (hb : PMSs X F b g) : PMS X F (.If c a b pos) (ifO ft f g) := by
  refine PS.imp (ps_if hc ha hb) fun D σ H ⟨V, ρ, E, g⟩ => ⟨V, ρ, E, Goal.ex g fun v d H1 V1 ρ1 st1 r1 g1 => ?_⟩
  subst r1
  cases v with
  | true => exact ⟨V1, ρ1, st1.env, g1⟩
  | false => exact ⟨V1, ρ1, st1.env, g1⟩
/-- an exception: raise C('..') -/
def raiseO (c : Str) : SM := fun _ => .exc c
theorem takesN0 {X : Cx} : L2N.Takes X (fun _ _ _ _ => False) := fun _ _ ⟨_, _, _, _, _, _, _, _, _, _, _, _, _, _, _, _, w⟩ => w.elim
/-- what the context asks: exceptions reach the frame's wish -/
def Tk (X : Cx) (F : Fr) : Prop := L2N.Takes X fun cls d σ H => d = none ∧ F.W cls σ H
structure ExcF (K : PySem.W.Frag) (mg : Str → Option Value) (c : Str) : Prop where
  g : mg c = some (.ref (He.ga K c))
  x : PySem.W.excIn K (He.ga K c) He.veBase "ValueError.__new__" = true ∧ PySem.W.keepIn K (.ref (He.ga K c)) = true ∧ PySem.W.subIn K (.ref (He.ga K c)) (.type "BaseException") = some true ∧ PySem.W.typeIn K (.ref (He.ga K c)) = some (.type "type")
theorem pms_raise {c m : Str} {j : Nat} {p p2 pos2 : Pos} (T : ExcF X.K X.mg c) (tk : Tk X F) (hc : X.calm = true := by rfl) (hg : Gl X c := by rfl) (hdb : (c == ("__debug__" : Str)) = false := by decide) : PMS X F (.Raise (some (.Call (.Name c p) [.Constant (.str m) j p2] [] pos2)) none pos) (raiseO c) := by
  refine PS.imp (L2N.ps_raise hc tk (L2N.pmk_own PySem.F.excBase_ValueError T.x.1 T.g T.x.2.1 (raises_own T.x.2.2.1 T.x.2.2.2) hg hdb)) fun D σ H ⟨V, ρ, E, g⟩ => ?_
  exact ⟨rfl, g σ H V E.ext⟩
end
def GM := PyData → Rho → R Rho
def tGM (K : KW) (F : Fr) (is : List Nat) (g : GM) : TG := fun v σ H Q => ∃ V ρ d, EnvR K F H V σ ρ ∧ Rep K V v d ∧ match g d ρ with
  | .ok ρ' => ∀ σ' H' V', EnvR K F H' V' σ' ρ' → Ext H V H' V' → (∀ vs : List Nat, (∀ i ∈ is, i ∈ vs) → wipe σ' vs = wipe σ vs) → (∀ b, IsOwn σ' ρ' b → IsOwn σ ρ b) → (∀ (i : Nat) (d : PyData), i ∉ is → ρ'[i]? = some (.sh d) → ρ[i]? = some (.sh d)) → Q σ' H'
  | .exc _ => False
  | .bad => False
def PMG (X : Cx) (F : Fr) (tg : Expr) (is : List Nat) (g : GM) : Prop := PG X tg (tGM X.kw F is g)
def PMGs (X : Cx) (F : Fr) (tgs : List Expr) (is : List Nat) (g : List PyData → Rho → R Rho) : Prop := PGs X tgs fun vs σ H Q => ∃ V ρ ds, EnvR X.kw F H V σ ρ ∧ RepL X.kw V vs ds ∧ match g ds ρ with
  | .ok ρ' => ∀ σ' H' V', EnvR X.kw F H' V' σ' ρ' → Ext H V H' V' → (∀ vs : List Nat, (∀ i ∈ is, i ∈ vs) → wipe σ' vs = wipe σ vs) → (∀ b, IsOwn σ' ρ' b → IsOwn σ ρ b) → (∀ (i : Nat) (d : PyData), i ∉ is → ρ'[i]? = some (.sh d) → ρ[i]? = some (.sh d)) → Q σ' H'
  | .exc _ => False
  | .bad => False
theorem PG.imp {X : Cx} {e : Expr} {t u : TG} (h : PG X e t) (i : ∀ v σ H Q, u v σ H Q → t v σ H Q) : PG X e u := ⟨fun pins s σ H v w Q I r q => h.run pins s σ H v w Q I r (i v σ H Q q)⟩
theorem PGs.imp {X : Cx} {e : List Expr} {t u : TGs} (h : PGs X e t) (i : ∀ v σ H Q, u v σ H Q → t v σ H Q) : PGs X e u := ⟨fun pins s σ H v w Q I r q => h.run pins s σ H v w Q I r (i v σ H Q q)⟩
/-- a slot is given data -/
def setS (i : Nat) : GM := fun d ρ => if i < ρ.length then .ok (ρ.set i (.sh d)) else .bad
section
variable {K : KW} {F : Fr} {σ : St} {ρ ρ1 : Rho} {H V H1 V1 : Hp} {X : Cx} {pos : Pos}
theorem EnvR.setSh (E : EnvR K F H V σ ρ) {i : Nat} {v : L2.V} {d : PyData} (r : Rep K V v d) (hl : i ≠ F.ls ∨ F.lent = none) : EnvR K F H V (σ.set i (some v)) (ρ.set i (.sh d)) := by
  have hlen := E.len
  refine ⟨by simp [hlen], E.ext, fun j e h => ?_, fun j e h => ?_, fun j k a e e' h1 h2 h3 h4 => ?_, fun a ha => ?_, E.tab, E.ob.set fun _ z => nomatch z⟩
  · by_cases hj : i = j
    · subst hj
      by_cases hi : i < ρ.length
      · rw [List.getElem?_set_self hi] at h
        cases h
        exact ⟨v, List.getElem?_set_self (by omega), r⟩
      · rw [List.getElem?_eq_none (by simpa using hi)] at h; cases h
    · rw [List.getElem?_set_ne hj] at h ⊢
      exact E.sh j e h
  · by_cases hj : i = j
    · subst hj
      by_cases hi : i < ρ.length
      · rw [List.getElem?_set_self hi] at h; cases h
      · rw [List.getElem?_eq_none (by simpa using hi)] at h; cases h
    · rw [List.getElem?_set_ne hj] at h ⊢
      exact E.ow j e h
  · have ne : ∀ {m : Nat} {x : PyData}, (ρ.set i (.sh d))[m]? = some (.ow x) → i ≠ m := fun {m x} q z => by
      subst z
      by_cases hi : i < ρ.length
      · rw [List.getElem?_set_self hi] at q; cases q
      · rw [List.getElem?_eq_none (by simpa using hi)] at q; cases q
    have n1 := ne h1
    have n2 := ne h2
    rw [List.getElem?_set_ne n1] at h1 h3
    rw [List.getElem?_set_ne n2] at h2 h4
    exact E.dis j k a e e' h1 h2 h3 h4
  · rcases hl with hl | hl
    · rw [List.getElem?_set_ne hl]; exact E.lent a ha
    · rw [hl] at ha; cases ha
theorem wipe_set {σ : St} {i : Nat} {x : Option L2.V} : ∀ {vs : List Nat}, i ∈ vs → wipe (σ.set i x) vs = wipe σ vs
  | [], h => by cases h
  | v :: vs, h => by
    show (wipe (σ.set i x) vs).set v none = (wipe σ vs).set v none
    by_cases e : i ∈ vs
    · rw [wipe_set e]
    · have e2 : i = v := by
        rcases List.mem_cons.mp h with z | z
        · exact z
        · exact absurd z e
      subst e2
      have key : ∀ {ws : List Nat}, i ∉ ws → wipe (σ.set i x) ws = (wipe σ ws).set i x := by
        intro ws
        induction ws with
        | nil => intro _; rfl
        | cons w ws ih =>
          intro hn
          show (wipe (σ.set i x) ws).set w none = ((wipe σ ws).set w none).set i x
          rw [ih fun z => hn (List.mem_cons_of_mem _ z), List.set_comm _ _ (fun z => hn (by rw [z]; exact List.mem_cons_self))]
      rw [key e, List.set_set]
theorem isOwn_set {σ : St} {ρ : Rho} {i : Nat} {d : PyData} {v : Option L2.V} {b : Addr} (h : IsOwn (σ.set i v) (ρ.set i (.sh d)) b) : IsOwn σ ρ b := by
  obtain ⟨j, e, h1, h2⟩ := h
  have ne : i ≠ j := fun z => by
    subst z
    by_cases hi : i < ρ.length
    · rw [List.getElem?_set_self hi] at h1; cases h1
    · rw [List.getElem?_eq_none (by simpa using hi)] at h1; cases h1
  rw [List.getElem?_set_ne ne] at h1 h2
  exact ⟨j, e, h1, h2⟩
theorem pmg_name (i : Nat) {x : Str} (hN : X.N.Nodup) (hi : X.N[i]? = some x := by rfl) (hx : Loc X.env.scope x := by first | exact Or.inl rfl | exact Or.inr rfl) (hl : i ≠ F.ls ∨ F.lent = none := by first | exact Or.inr rfl | exact Or.inl (ne_ls rfl))
    (hf : X.fn x = true ∨ X.env.scope.names.lookup x = some .local := by first | exact .inl rfl | exact .inr rfl | assumption) : PMG X F (.Name x pos) [i] (setS i) := by
  refine PG.imp (pg_name hN hi hx hf) fun v σ H Q ⟨V, ρ, d, E, r, g⟩ => ?_
  unfold setS at g
  by_cases hlt : i < ρ.length
  · rw [if_pos hlt] at g
    exact g _ _ _ (E.setSh r hl) (Ext.refl E.sub) (fun vs hv => wipe_set (hv i (List.mem_singleton.mpr rfl))) (fun b hb => isOwn_set hb) fun j e hj q => by
      rw [List.getElem?_set_ne (fun z => hj (List.mem_singleton.mpr z.symm))] at q
      exact q
  · rw [if_neg hlt] at g
    exact False.elim g
def gsN : List PyData → Rho → R Rho := fun ds ρ => match ds with
  | [] => .ok ρ
  | _ => .bad
def gsC (g : GM) (gs : List PyData → Rho → R Rho) : List PyData → Rho → R Rho := fun ds ρ => match ds with
  | d :: ds => R.bind (g d ρ) fun ρ' => gs ds ρ'
  | [] => .bad
theorem pmgs_nil : PMGs X F [] [] gsN := by
  refine PGs.imp pgs_nil fun vs σ H Q ⟨V, ρ, ds, E, r, g⟩ => ?_
  cases r with
  | nil => exact ⟨rfl, g _ _ _ E (Ext.refl E.sub) (fun _ _ => rfl) (fun _ h => h) fun _ _ _ h => h⟩
  | cons _ _ => exact False.elim g
theorem pmgs_cons {e : Expr} {es : List Expr} {is js : List Nat} {g : GM} {gs : List PyData → Rho → R Rho} (h1 : PMG X F e is g) (h2 : PMGs X F es js gs)
    (hs : (assignEach (e :: es) X.env).map (·.2) = assign e X.env :: (assignEach es X.env).map (·.2) := by rfl) : PMGs X F (e :: es) (is ++ js) (gsC g gs) := by
  refine PGs.imp (pgs_cons h1 h2 hs) fun vs σ H Q ⟨V, ρ, ds, E, r, g0⟩ => ?_
  cases r with
  | nil => exact False.elim g0
  | @cons v vs d ds r1 r2 =>
    refine ⟨v, vs, rfl, V, ρ, d, E, r1, ?_⟩
    have g0 : (match R.bind (g d ρ) fun ρ' => gs ds ρ' with
      | .ok ρ' => ∀ σ' H' V', EnvR X.kw F H' V' σ' ρ' → Ext H V H' V' → (∀ vs : List Nat, (∀ i ∈ is ++ js, i ∈ vs) → wipe σ' vs = wipe σ vs) → (∀ b, IsOwn σ' ρ' b → IsOwn σ ρ b) → (∀ (i : Nat) (d : PyData), i ∉ is ++ js → ρ'[i]? = some (.sh d) → ρ[i]? = some (.sh d)) → Q σ' H'
      | .exc _ => False
      | .bad => False) := g0
    cases e1 : g d ρ with
    | ok ρ1 =>
      rw [e1] at g0
      intro σ1 H1 V1 E1 x1 w1 o1 p1
      refine ⟨V1, ρ1, ds, E1, r2.mono x1.v, ?_⟩
      have g0 : (match gs ds ρ1 with
        | .ok ρ' => ∀ σ' H' V', EnvR X.kw F H' V' σ' ρ' → Ext H V H' V' → (∀ vs : List Nat, (∀ i ∈ is ++ js, i ∈ vs) → wipe σ' vs = wipe σ vs) → (∀ b, IsOwn σ' ρ' b → IsOwn σ ρ b) → (∀ (i : Nat) (d : PyData), i ∉ is ++ js → ρ'[i]? = some (.sh d) → ρ[i]? = some (.sh d)) → Q σ' H'
        | .exc _ => False
        | .bad => False) := g0
      cases e2 : gs ds ρ1 with
      | ok ρ2 =>
        rw [e2] at g0
        intro σ2 H2 V2 E2 x2 w2 o2 p2
        exact g0 σ2 H2 V2 E2 (x1.trans x2) (fun vs hv => (w2 vs fun i hi => hv i (List.mem_append_right _ hi)).trans (w1 vs fun i hi => hv i (List.mem_append_left _ hi))) (fun b hb => o1 b (o2 b hb)) fun i d hi q => p1 i d (fun z => hi (List.mem_append_left _ z)) (p2 i d (fun z => hi (List.mem_append_right _ z)) q)
      | exc c => rw [e2] at g0; exact g0
      | bad => rw [e2] at g0; exact g0
    | exc c => rw [e1] at g0; exact g0
    | bad => rw [e1] at g0; exact g0
/-- a tuple taken apart -/
def unT (gs : List PyData → Rho → R Rho) : GM := fun d ρ => match d with
  | .tuple ds => gs ds ρ
  | _ => .bad
theorem pmg_tup {es : List Expr} {k : Nat} {is : List Nat} {gs : List PyData → Rho → R Rho} {n : Nat} (h : PMGs X F es is gs) (hgn : ∀ ds ρ ρ', gs ds ρ = .ok ρ' → ds.length = n) (hc : X.calm = true := by rfl)
    (hn : (assignEach es X.env).length = n := by rfl) (hst : (assignEach es X.env).findIdx? (·.1) = none := by rfl) : PMG X F (.Tuple es k pos) is (unT gs) := by
  refine PG.imp (pg_tup hc h hn hst) fun v σ H Q ⟨V, ρ, d, E, r, g⟩ => ?_
  cases r with
  | @tup a xs ds ha ra =>
    have g : (match gs ds ρ with
      | .ok ρ' => ∀ σ' H' V', EnvR X.kw F H' V' σ' ρ' → Ext H V H' V' → (∀ vs : List Nat, (∀ i ∈ is, i ∈ vs) → wipe σ' vs = wipe σ vs) → (∀ b, IsOwn σ' ρ' b → IsOwn σ ρ b) → (∀ (i : Nat) (d : PyData), i ∉ is → ρ'[i]? = some (.sh d) → ρ[i]? = some (.sh d)) → Q σ' H'
      | .exc _ => False
      | .bad => False) := g
    refine ⟨a, xs, rfl, sqt E.sub ha, ?_, V, ρ, ds, E, ra, g⟩
    cases e : gs ds ρ with
    | ok ρ' => rw [ra.length]; exact hgn ds ρ ρ' e
    | exc c => rw [e] at g; exact False.elim g
    | bad => rw [e] at g; exact False.elim g
  | _ => exact False.elim g
/-- assignment -/
def asgO (a : M PyData) (g : GM) : SM := exO a fun d ρ => match g d ρ with
  | .ok ρ' => .nx ρ'
  | .exc c => .bad
  | .bad => .bad
theorem asg_goal {D : Ends} {is : List Nat} {g : GM} {d : PyData} {v : L2.V} (E : EnvR K F H V σ ρ) (r : Rep K V v d) (g1 : GoalS K F V (match g d ρ with
  | .ok ρ' => .nx ρ'
  | .exc c => .bad
  | .bad => .bad) D) : tGM K F is g v σ H D.nx := by
  refine ⟨V, ρ, d, E, r, ?_⟩
  cases e : g d ρ with
  | ok ρ' => rw [e] at g1; exact fun σ' H' V' E' x _ _ _ => g1 σ' H' V' E' x.v
  | exc c => rw [e] at g1; exact g1
  | bad => rw [e] at g1; exact g1
theorem pms_asg {tg e : Expr} {fa : M PyData} {is : List Nat} {g : GM} (he : PM X F e fa) (hg : PMG X F tg is g) (hs : swapsWithSole [tg] e pos.line X.env = pure false := by rfl) (hw : swappedStores [tg] e X.env = pure none := by rfl)
    (h1 : (assignEach [tg] X.env).map (·.2) = [assign tg X.env] := by rfl) : PMS X F (.Assign [tg] e pos) (asgO fa g) :=
  PS.imp (ps_asg he hg hs hw h1) fun D σ H ⟨V, ρ, E, g⟩ => ⟨V, ρ, E, Goal.ex g fun v d H1 V1 ρ1 st1 r1 g1 => asg_goal st1.env r1 g1⟩
theorem pms_set (i : Nat) {x : Str} {e : Expr} {fa : M PyData} {pos' : Pos} (he : PM X F e fa) (hN : X.N.Nodup) (hi : X.N[i]? = some x := by rfl) (hx : Loc X.env.scope x := by first | exact Or.inl rfl | exact Or.inr rfl) (hl : i ≠ F.ls ∨ F.lent = none := by first | exact Or.inr rfl | exact Or.inl (ne_ls rfl))
    (hs : swapsWith e (some (.Name x pos')) pos.line X.env = pure false := by rfl) (hf : X.fn x = true ∨ X.env.scope.names.lookup x = some .local := by first | exact .inl rfl | exact .inr rfl | assumption) :
    PMS X F (.Assign [.Name x pos'] e pos) (asgO fa (setS i)) := by
  refine PS.imp (ps_set hN hi hx he hs hf) fun D σ H ⟨V, ρ, E, g⟩ => ⟨V, ρ, E, Goal.ex g fun v d H1 V1 ρ1 st1 r1 g1 => ?_⟩
  unfold setS at g1
  by_cases hlt : i < ρ1.length
  · rw [if_pos hlt] at g1
    exact g1 _ _ _ (st1.env.setSh r1 hl) (Same.refl _)
  · rw [if_neg hlt] at g1
    exact False.elim g1
/-- a, b = x, y -/
def par2 (i j : Nat) (a : M (List PyData)) : SM := exO a fun ds ρ => match ds with
  | [x, y] => if i < ρ.length ∧ j < ρ.length then .nx ((ρ.set i (.sh x)).set j (.sh y)) else .bad
  | _ => .bad
theorem pms_par (i j : Nat) {x y : Str} {a b : Expr} {fs : M (List PyData)} {px py pt : Pos} {kt k2 pt2} (ha : PMA X F [a, b] fs) (hN : X.N.Nodup) (hi : X.N[i]? = some x := by rfl) (hj : X.N[j]? = some y := by rfl) (hij : i ≠ j := by decide)
    (hx : X.env.scope.names.lookup x = some .local := by rfl) (hy : X.env.scope.names.lookup y = some .local := by rfl) (hli : i ≠ F.ls ∨ F.lent = none := by first | exact Or.inr rfl | exact Or.inl (ne_ls rfl)) (hlj : j ≠ F.ls ∨ F.lent = none := by first | exact Or.inr rfl | exact Or.inl (ne_ls rfl))
    (hw : swappedStores [.Tuple [.Name x px, .Name y py] kt pt] (.Tuple [a, b] k2 pt2) X.env = pure (some [x, y]) := by rfl)
    (hs : swapsWithSole [.Tuple [.Name x px, .Name y py] kt pt] (.Tuple [a, b] k2 pt2) pos.line X.env = pure false := by rfl) (hc : X.calm = true := by rfl) :
    PMS X F (.Assign [.Tuple [.Name x px, .Name y py] kt pt] (.Tuple [a, b] k2 pt2) pos) (par2 i j fs) := by
  refine PS.imp (ps_par hc hN hi hj hij hx hy ha hw hs) fun D σ H ⟨V, ρ, E, g⟩ => ⟨V, ρ, E, Goal.ex g fun vs ds H1 V1 ρ1 st1 r1 g1 => ?_⟩
  cases r1 with
  | nil => exact False.elim g1
  | @cons v vs d ds r1 r2 =>
    cases r2 with
    | nil => exact False.elim g1
    | @cons v2 vs d2 ds r2 r3 =>
      cases r3 with
      | cons _ _ => exact False.elim g1
      | nil =>
        have g1 : GoalS X.kw F V1 (if i < ρ1.length ∧ j < ρ1.length then .nx ((ρ1.set i (.sh d)).set j (.sh d2)) else .bad) D := g1
        by_cases hlt : i < ρ1.length ∧ j < ρ1.length
        · rw [if_pos hlt] at g1
          exact ⟨v, v2, rfl, g1 _ _ _ ((st1.env.setSh r1 hli).setSh r2 hlj) (Same.refl _)⟩
        · rw [if_neg hlt] at g1
          exact False.elim g1
end
end DL
set_option Elab.async false
set_option linter.all false
set_option maxRecDepth 100000
set_option maxHeartbeats 1000000
namespace DL
open PySem PySem.Spec PyProof.Rows L2
variable [TabCtx]
/-- it walks ds, whatever comes beside what is seen at V -/
def ItD (K : KW) (J : It) (V : Hp) (ds : List PyData) : Prop := ∀ (i : Nat) (H' V' : Hp), Same V V' → Same V' H' →
  (∀ d, ds[i]? = some d → J.go i H' ∧ ∀ x H'', J.yld i H' x H'' → ∃ V'', Ext H' V' H'' V'' ∧ Rep K V'' x d) ∧ (i = ds.length → J.stop i H')
theorem ItD.mono {K : KW} {J : It} {V V1 : Hp} {ds : List PyData} (h : ItD K J V ds) (v : Same V V1) : ItD K J V1 ds := fun i H' V' s1 s2 => h i H' V' (v.trans s1) s2
def tI (K : KW) (F : Fr) (f : M (List PyData)) : TI := fun σ H R => ∃ V ρ, EnvR K F H V σ ρ ∧ Goal K F σ ρ H V (fun V' (J : It) ds => ItD K J V' ds) (f ρ) R
def PMI (X : Cx) (F : Fr) (tg iter : Expr) (f : M (List PyData)) : Prop := PI X tg iter (tI X.kw F f)
theorem PI.imp {X : Cx} {tg e : Expr} {t u : TI} (h : PI X tg e t) (i : ∀ σ H Q, u σ H Q → t σ H Q) : PI X tg e u := ⟨fun pins s σ H R I q => h.run pins s σ H R I (i σ H R q)⟩
def itL {K : KW} {a : Addr} {xs : List L2.V} {V : Hp} {ds : List PyData} (h : V a = some (.lst xs)) (r : RepL K V xs ds) : ItD K (Itl K a) V ds := by
  intro i H' V' s1 s2
  have hq : SqL K H' a xs := .inl (.inl (s2 _ _ (s1 _ _ h)))
  refine ⟨fun d hd => ?_, fun e => ⟨xs, hq, by rw [r.length, e]; exact Nat.le_refl _⟩⟩
  obtain ⟨v, h1, h2⟩ := r.get i hd
  refine ⟨⟨xs, v, hq, h1⟩, fun x H'' hy => ?_⟩
  obtain ⟨e, hy⟩ := hy
  subst e
  have e2 : v = x := Option.some.inj (h1.symm.trans (hy xs hq))
  subst e2
  exact ⟨V', Ext.refl s2, h2.mono s1⟩
def itT {K : KW} {a : Addr} {xs : List L2.V} {V : Hp} {ds : List PyData} (h : V a = some (.tup xs)) (r : RepL K V xs ds) : ItD K (Itt K a) V ds := by
  intro i H' V' s1 s2
  have hq : SqT K H' a xs := sqt s2 (s1 _ _ h)
  refine ⟨fun d hd => ?_, fun e => ⟨xs, hq, by rw [r.length, e]; exact Nat.le_refl _⟩⟩
  obtain ⟨v, h1, h2⟩ := r.get i hd
  refine ⟨⟨xs, v, hq, h1⟩, fun x H'' hy => ?_⟩
  obtain ⟨e, hy⟩ := hy
  subst e
  have e2 : v = x := Option.some.inj (h1.symm.trans (hy xs hq))
  subst e2
  exact ⟨V', Ext.refl s2, h2.mono s1⟩
def signD (c : Nat) : PyData := .str ⟨#[c]⟩
def itS {K : KW} {x : Str} {V : Hp} : ItD K (Its x) V (x.cps.toList.map signD) := by
  intro i H' V' s1 s2
  refine ⟨fun d hd => ?_, fun e => ?_⟩
  · rw [List.getElem?_map] at hd
    obtain ⟨c, hc, ed⟩ := Option.map_eq_some_iff.mp hd
    subst ed
    have hlt : i < x.cps.toList.length := (List.getElem?_eq_some_iff.mp hc).1
    refine ⟨by show i < x.cps.size; simpa using hlt, fun v H'' hy => ?_⟩
    obtain ⟨e, c', hc', ev⟩ := hy
    subst e ev
    have e2 : c = c' := by
      rw [← Array.getElem?_toList] at hc'
      exact Option.some.inj (hc.symm.trans hc')
    subst e2
    exact ⟨V', Ext.refl s2, .str _⟩
  · show x.cps.size ≤ i
    rw [e, List.length_map, Array.length_toList]
    exact Nat.le_refl _
def rangeD (lo : Int) (n : Nat) : List PyData := (List.range n).map fun i => .int (lo + (i : Nat))
def itR {K : KW} {lo : Int} {n : Nat} {V : Hp} : ItD K (Itr lo n) V (rangeD lo n) := by
  intro i H' V' s1 s2
  unfold rangeD
  refine ⟨fun d hd => ?_, fun e => ?_⟩
  · rw [List.getElem?_map] at hd
    obtain ⟨c, hc, ed⟩ := Option.map_eq_some_iff.mp hd
    obtain ⟨h1, h2⟩ := List.getElem?_eq_some_iff.mp hc
    rw [List.length_range] at h1
    rw [List.getElem_range] at h2
    subst h2 ed
    refine ⟨h1, fun v H'' hy => ?_⟩
    obtain ⟨e, ev⟩ := hy
    subst e ev
    exact ⟨V', Ext.refl s2, .int _⟩
  · show n ≤ i
    rw [e, List.length_map, List.length_range]
    exact Nat.le_refl _
/-- a list, a tuple, a text -/
def itemsD : PyData → Option (List PyData)
  | .list ds => some ds
  | .tuple ds => some ds
  | .str x => some (x.cps.toList.map signD)
  | _ => none
def seqI (a : M PyData) : M (List PyData) := M.bind a fun d => M.opt (itemsD d)
def iSeq (K : KW) (tl : TE) : TI := fun σ H R => tl σ H fun x H1 => (∃ a, x = .ref a ∧ (∃ xs, SqL K H1 a xs) ∧ R (Itl K a) H1) ∨ (∃ a, x = .ref a ∧ (∃ xs, SqT K H1 a xs) ∧ R (Itt K a) H1) ∨ ∃ z, x = .str z ∧ R (Its z) H1
section
variable {X : Cx} {F : Fr} {tg l e e2 : Expr} {pos : Pos} {fa fb : M PyData} {fs : M (List PyData)}
theorem pi_seq {tl : TE} (hl : PE X l tl) : PI X tg l (iSeq X.kw tl) := by
  refine ⟨fun pins s σ H R I h => ?_⟩
  refine thn (hl.run pins s σ H _ I h) fun v s1 ⟨x, H1, I1, r1, q1⟩ => ?_
  rcases q1 with ⟨a, e, ⟨xs, hq⟩, q⟩ | ⟨a, e, ⟨xs, hq⟩, q⟩ | ⟨z, e, q⟩
  · subst e
    cases r1
    obtain ⟨its, rv, p, hz⟩ := I1.list hq
    refine wpAny_pyIter_list p.isList ?_
    refine ⟨s1.heap.objs.size, [s1.heap.objs.size], _, _, H1, rfl, I1.kept (t' := s1.toks) fun b o e => Heap.get?_push_of_some _ e, turn_list a _, ⟨_, Heap.get?_push_size _ rfl, rfl, rfl⟩, fun b hb => ?_, q⟩
    have e : b = s1.heap.objs.size := by simpa using hb
    subst e
    exact I1.fpOk (Nat.le_refl _) (I1.hok.fresh (Nat.le_refl _))
  · subst e
    cases r1
    obtain ⟨its, rv, p, hz⟩ := I1.tuple hq
    refine wpAny_pyIter_tuple (show s1.heap.IsTuple a its.toArray from p) ?_
    refine ⟨s1.heap.objs.size, [s1.heap.objs.size], _, _, H1, rfl, I1.kept (t' := s1.toks) fun b o e => Heap.get?_push_of_some _ e, turn_tuple a _, ⟨_, Heap.get?_push_size _ rfl, rfl, rfl⟩, fun b hb => ?_, q⟩
    have e : b = s1.heap.objs.size := by simpa using hb
    subst e
    exact I1.fpOk (Nat.le_refl _) (I1.hok.fresh (Nat.le_refl _))
  · subst e
    obtain ⟨t, rfl⟩ := r1
    cases ha : z.cps.all (· < 128)
    · exact wpAny_pyIter_wide ha (pi_one (tk := s1.toks) I1 _ (turn_str _ z t "str_iterator" (.inr rfl)) ⟨_, Heap.get?_push_size _ rfl, rfl, rfl⟩ q)
    · exact wpAny_pyIter_ascii ha (pi_one (tk := s1.toks) I1 _ (turn_str _ z t "str_ascii_iterator" (.inl rfl)) ⟨_, Heap.get?_push_size _ rfl, rfl, rfl⟩ q)
theorem pmi_seq (h : PM X F l fa) : PMI X F tg l (seqI fa) := by
  refine PI.imp (pi_seq h) fun σ H R ⟨V, ρ, E, g0⟩ => ⟨V, ρ, E, Goal.bind g0 fun x dx H1 V1 ρ1 st1 r1 g1 => ?_⟩
  obtain ⟨z, ez, q⟩ := Goal.opt st1.env g1
  have s := st1.env.sub
  cases r1 with
  | @lst a xs ds ha ra => cases ez; exact .inl ⟨a, rfl, ⟨xs, .inl (.inl (s _ _ ha))⟩, q _ _ _ (Ext.refl s) (itL ha ra)⟩
  | @tup a xs ds ha ra => cases ez; exact .inr (.inl ⟨a, rfl, ⟨xs, sqt s ha⟩, q _ _ _ (Ext.refl s) (itT ha ra)⟩)
  | str x => cases ez; exact .inr (.inr ⟨x, rfl, q _ _ _ (Ext.refl s) itS⟩)
  | _ => cases ez
def rg1 : List PyData → Option (List PyData)
  | [.int j] => if -(2 ^ 62) ≤ j ∧ j < 2 ^ 62 then some (rangeD 0 j.toNat) else none
  | _ => none
def rg2 : List PyData → Option (List PyData)
  | [.int i, .int j] => if -(2 ^ 62) ≤ i ∧ i < 2 ^ 62 ∧ -(2 ^ 62) ≤ j ∧ j < 2 ^ 62 then some (rangeD i (j - i).toNat) else none
  | _ => none
def opI (g : List PyData → Option (List PyData)) (a : M (List PyData)) : M (List PyData) := M.bind a fun ds => M.opt (g ds)
theorem ite_someL {α : Type} {c : Prop} [Decidable c] {a z : α} (h : (if c then some a else none) = some z) : c ∧ a = z := by
  by_cases hc : c
  · rw [if_pos hc] at h; exact ⟨hc, Option.some.inj h⟩
  · rw [if_neg hc] at h; cases h
theorem pmi_range1 {p : Pos} (hm : X.mg "range" = none) (ha : PMA X F [e] fs) (hg : Gl X "range" := by rfl) (hs : starEach [e] X.env = [(false, eval e X.env)] := by rfl) : PMI X F tg (.Call (.Name "range" p) [e] [] pos) (opI rg1 fs) := by
  refine PI.imp (pi_range1 hg hm ha hs) fun σ H R ⟨V, ρ, E, g0⟩ => ⟨V, ρ, E, Goal.bind g0 fun x dx H1 V1 ρ1 st1 r1 g1 => ?_⟩
  obtain ⟨z, ez, q⟩ := Goal.opt st1.env g1
  cases r1 with
  | nil => cases ez
  | cons r1 r2 =>
    cases r2 with
    | cons _ _ => cases r1 <;> cases ez
    | nil =>
      cases r1 with
      | int j =>
        obtain ⟨h, rfl⟩ := ite_someL ez
        exact ⟨j, rfl, h.1, h.2, q _ _ _ (Ext.refl st1.env.sub) itR⟩
      | _ => cases ez
theorem pmi_range2 {p : Pos} (hm : X.mg "range" = none) (ha : PMA X F [e, e2] fs) (hg : Gl X "range" := by rfl) (hs : starEach [e, e2] X.env = [(false, eval e X.env), (false, eval e2 X.env)] := by rfl) (hs2 : starEach [e2] X.env = [(false, eval e2 X.env)] := by rfl) : PMI X F tg (.Call (.Name "range" p) [e, e2] [] pos) (opI rg2 fs) := by
  refine PI.imp (pi_range2 hg hm ha hs hs2) fun σ H R ⟨V, ρ, E, g0⟩ => ⟨V, ρ, E, Goal.bind g0 fun x dx H1 V1 ρ1 st1 r1 g1 => ?_⟩
  obtain ⟨z, ez, q⟩ := Goal.opt st1.env g1
  cases r1 with
  | nil => cases ez
  | cons r1 r2 =>
    cases r2 with
    | nil => cases r1 <;> cases ez
    | cons r2 r3 =>
      cases r3 with
      | cons _ _ => cases r1 <;> cases r2 <;> cases ez
      | nil =>
        cases r1 with
        | int i =>
          cases r2 with
          | int j =>
            obtain ⟨h, rfl⟩ := ite_someL ez
            exact ⟨i, j, rfl, h, q _ _ _ (Ext.refl st1.env.sub) itR⟩
          | _ => cases ez
        | _ => cases r2 <;> cases ez
def zipD (a b : List PyData) : List PyData := (a.zip b).map fun p => .tuple [p.1, p.2]
def gZip : List PyData → Option (List PyData)
  | [.list a, .list b] => some (zipD a b)
  | [.tuple a, .tuple b] => some (zipD a b)
  | _ => none
theorem zipD_get {a b : List PyData} {i : Nat} {d : PyData} (h : (zipD a b)[i]? = some d) : ∃ x y, a[i]? = some x ∧ b[i]? = some y ∧ d = .tuple [x, y] := by
  unfold zipD at h
  rw [List.getElem?_map] at h
  obtain ⟨⟨x, y⟩, h1, h2⟩ := Option.map_eq_some_iff.mp h
  obtain ⟨h3, h4⟩ := List.getElem?_zip_eq_some.mp h1
  exact ⟨x, y, h3, h4, h2.symm⟩
theorem zipD_len {a b : List PyData} : (zipD a b).length = min a.length b.length := by
  unfold zipD
  rw [List.length_map, List.length_zip]
theorem itZ {K : KW} {a b : Addr} {xs ys : List L2.V} {V : Hp} {ds es : List PyData} (ha : V a = some (.lst xs)) (ra : RepL K V xs ds) (hb : V b = some (.lst ys)) (rb : RepL K V ys es) : ItD K (Itz K a b) V (zipD ds es) := by
  intro i H' V' s1 s2
  have q1 : SqL K H' a xs := .inl (.inl (s2 _ _ (s1 _ _ ha)))
  have q2 : SqL K H' b ys := .inl (.inl (s2 _ _ (s1 _ _ hb)))
  refine ⟨fun d hd => ?_, fun e => ⟨xs, ys, q1, q2, ?_⟩⟩
  · obtain ⟨x, y, hx, hy, rfl⟩ := zipD_get hd
    obtain ⟨v, h1, h2⟩ := ra.get i hx
    obtain ⟨u, h3, h4⟩ := rb.get i hy
    refine ⟨⟨xs, ys, v, u, q1, q2, h1, h3⟩, fun z H'' hyl => ?_⟩
    obtain ⟨T, x', y', rfl, hT, rfl, f1, f2⟩ := hyl
    have e1 : v = x' := Option.some.inj (h1.symm.trans (f1 xs q1))
    have e2 : u = y' := Option.some.inj (h3.symm.trans (f2 ys q2))
    subst e1 e2
    exact ⟨_, Ext.new s2 hT, new_tup s2 hT (.cons (h2.mono s1) (.cons (h4.mono s1) .nil))⟩
  · rw [zipD_len] at e
    rw [ra.length, rb.length]
    omega
theorem itZT {K : KW} {a b : Addr} {xs ys : List L2.V} {V : Hp} {ds es : List PyData} (ha : V a = some (.tup xs)) (ra : RepL K V xs ds) (hb : V b = some (.tup ys)) (rb : RepL K V ys es) : ItD K (RZ.ItzT K a b) V (zipD ds es) := by
  intro i H' V' s1 s2
  have q1 : SqT K H' a xs := sqt s2 (s1 _ _ ha)
  have q2 : SqT K H' b ys := sqt s2 (s1 _ _ hb)
  refine ⟨fun d hd => ?_, fun e => ⟨xs, ys, q1, q2, ?_⟩⟩
  · obtain ⟨x, y, hx, hy, rfl⟩ := zipD_get hd
    obtain ⟨v, h1, h2⟩ := ra.get i hx
    obtain ⟨u, h3, h4⟩ := rb.get i hy
    refine ⟨⟨xs, ys, v, u, q1, q2, h1, h3⟩, fun z H'' hyl => ?_⟩
    obtain ⟨T, x', y', rfl, hT, rfl, f1, f2⟩ := hyl
    have e1 : v = x' := Option.some.inj (h1.symm.trans (f1 xs q1))
    have e2 : u = y' := Option.some.inj (h3.symm.trans (f2 ys q2))
    subst e1 e2
    exact ⟨_, Ext.new s2 hT, new_tup s2 hT (.cons (h2.mono s1) (.cons (h4.mono s1) .nil))⟩
  · rw [zipD_len] at e
    rw [ra.length, rb.length]
    omega
theorem pmi_zip {elts : List Expr} {kk : Nat} {tpos p : Pos} (hm : X.mg "zip" = none) (ha : PMA X F [e, e2] fs) (hg : Gl X "zip" := by rfl) (hs : starEach [e, e2] X.env = (false, eval e X.env) :: starEach [e2] X.env := by rfl) (hpl : (backTo pos (starEach [e2] X.env)).any (·.1) = false := by rfl) :
    PMI X F (.Tuple elts kk tpos) (.Call (.Name "zip" p) [e, e2] [] pos) (opI gZip fs) := by
  refine PI.imp (RZ.pi_zipA hg hm ha hs hpl) fun σ H R ⟨V, ρ, E, g0⟩ => ⟨V, ρ, E, Goal.bind g0 fun x dx H1 V1 ρ1 st1 r1 g1 => ?_⟩
  obtain ⟨z, ez, q⟩ := Goal.opt st1.env g1
  have s := st1.env.sub
  cases r1 with
  | nil => cases ez
  | cons r1 r2 =>
    cases r2 with
    | nil => cases r1 <;> cases ez
    | cons r2 r3 =>
      cases r3 with
      | cons _ _ => cases r1 <;> cases r2 <;> cases ez
      | nil =>
        cases r1 with
        | @lst a xs ds ha ra =>
          cases r2 with
          | @lst b ys es hb rb => cases ez; exact ⟨a, b, xs, ys, rfl, .inl ⟨.inl (.inl (s _ _ ha)), .inl (.inl (s _ _ hb)), q _ _ _ (Ext.refl s) (itZ ha ra hb rb)⟩⟩
          | _ => cases ez
        | @tup a xs ds ha ra =>
          cases r2 with
          | @tup b ys es hb rb => cases ez; exact ⟨a, b, xs, ys, rfl, .inr ⟨sqt s ha, sqt s hb, q _ _ _ (Ext.refl s) (itZT ha ra hb rb)⟩⟩
          | _ => cases ez
        | _ => cases r2 <;> cases ez
end
def loopO (g : GM) (body : SM) : List PyData → Rho → O
  | [], ρ => .nx ρ
  | d :: ds, ρ => match g d ρ with
    | .ok ρ1 => (match body ρ1 with
      | .nx ρ2 => loopO g body ds ρ2
      | .ct ρ2 => loopO g body ds ρ2
      | .bk ρ2 => .nx ρ2
      | .rt x ρ2 => .rt x ρ2
      | .rf x ρ2 => .rf x ρ2
      | .exc c => .exc c
      | .bad => .bad)
    | .exc _ => .bad
    | .bad => .bad
def forO (a : M (List PyData)) (g : GM) (body : SM) : SM := exO a fun ds => loopO g body ds
section
variable {X : Cx} {F : Fr} {tg iter : Expr} {body : List Stmt} {pos : Pos} {fi : M (List PyData)} {is : List Nat} {g : GM} {fb : SM}
theorem pms_for (hp : PassesOwn (model X.prog X.w) X.A X.env X.xe) (hi : PMI X F tg iter fi) (hg : PMG X F tg is g) (hb : PMSs X F body fb) (hc : X.calm = true := by rfl)
    (hs : ∀ x, foldedSetIterable iter X.env x = pure x := by intro _; rfl) : PMS X F (.For tg iter body [] pos) (forO fi g fb) := by
  refine PS.imp (ps_for hp hc hi hg hb hs) fun D σ H ⟨V, ρ, E, g0⟩ => ⟨V, ρ, E, Goal.ex g0 fun J ds H1 V1 ρ1 st1 it g1 => ?_⟩
  refine ⟨fun i m σ' H' => m = ds.length - i ∧ i ≤ ds.length ∧ ∃ V' ρ', EnvR X.kw F H' V' σ' ρ' ∧ Same V1 V' ∧ GoalS X.kw F V' (loopO g fb (ds.drop i) ρ') D,
    ⟨ds.length, rfl, Nat.zero_le _, V1, ρ1, st1.env, Same.refl _, g1⟩, ?_⟩
  rintro i m σ' H' ⟨rfl, hle, V', ρ', E', sv, gl⟩
  obtain ⟨h1, h2⟩ := it i H' V' sv E'.sub
  by_cases hlt : i < ds.length
  · have hd : ds[i]? = some ds[i] := List.getElem?_eq_getElem hlt
    obtain ⟨go, yl⟩ := h1 _ hd
    rw [List.drop_eq_getElem_cons hlt] at gl
    refine .inr ⟨go, fun σ2 H2 => ∃ V2 ρ2, EnvR X.kw F H2 V2 σ2 ρ2 ∧ Same V1 V2 ∧ GoalS X.kw F V2 (loopO g fb (ds.drop (i + 1)) ρ2) D, fun σ2 H2 h => ⟨ds.length - (i + 1), by omega, rfl, hlt, h⟩, fun x H2 y => ?_⟩
    obtain ⟨V2, x2, r2⟩ := yl x H2 y
    refine ⟨V2, ρ', ds[i], E'.grow x2, r2, ?_⟩
    unfold loopO at gl
    cases eg : g ds[i] ρ' with
    | exc c => rw [eg] at gl; exact gl
    | bad => rw [eg] at gl; exact gl
    | ok ρ3 =>
      rw [eg] at gl
      intro σ3 H3 V3 E3 x3 _ _ _
      refine ⟨V3, ρ3, E3, ?_⟩
      have v3 : Same V' V3 := x2.v.trans x3.v
      have gl : GoalS X.kw F V' (match fb ρ3 with
        | .nx ρ2 => loopO g fb (ds.drop (i + 1)) ρ2
        | .ct ρ2 => loopO g fb (ds.drop (i + 1)) ρ2
        | .bk ρ2 => .nx ρ2
        | .rt x ρ2 => .rt x ρ2
        | .rf x ρ2 => .rf x ρ2
        | .exc c => .exc c
        | .bad => .bad) D := gl
      cases eb : fb ρ3 with
      | nx ρ4 => rw [eb] at gl; exact fun σ4 H4 V4 E4 v4 => ⟨V4, ρ4, E4, (sv.trans v3).trans v4, GoalS.mono (v3.trans v4) gl⟩
      | ct ρ4 => rw [eb] at gl; exact fun σ4 H4 V4 E4 v4 => ⟨V4, ρ4, E4, (sv.trans v3).trans v4, GoalS.mono (v3.trans v4) gl⟩
      | bk ρ4 => rw [eb] at gl; exact fun σ4 H4 V4 E4 v4 => gl σ4 H4 V4 E4 (v3.trans v4)
      | rt x ρ4 => rw [eb] at gl; exact fun v σ4 H4 V4 E4 v4 => gl v σ4 H4 V4 E4 (v3.trans v4)
      | rf x ρ4 => rw [eb] at gl; exact fun v σ4 H4 V4 E4 v4 => gl v σ4 H4 V4 E4 (v3.trans v4)
      | exc c => rw [eb] at gl; exact gl
      | bad => rw [eb] at gl; exact gl
  · have e : i = ds.length := by omega
    subst e
    rw [List.drop_length] at gl
    exact .inl ⟨h2 rfl, gl σ' H' V' E' (Same.refl _)⟩
end
end DL
set_option Elab.async false
set_option linter.all false
set_option maxRecDepth 100000
set_option maxHeartbeats 1000000
namespace DL
open PySem PySem.Spec PyProof.Rows L2
variable [TabCtx]
def start0 (n : Nat) (ds : List PyData) : Rho := ds.map .sh ++ List.replicate (n - ds.length) .no
/-- a def of k parameters, n slots -/
def fnRun (k n : Nat) (f : SM) (ds : List PyData) : R PyData := if ds.length = k then (match f (start0 n ds) with
  | .rt d _ => .ok d
  | .rf d _ => .ok d
  | .nx _ => .ok .none
  | .exc c => .exc c
  | _ => .bad) else .bad
def spF (K : KW) (n : Nat) (m : List PyData → R PyData) : Sp := fun vs H Q E => vs.length = n ∧ ∃ V ds, TabV H V ∧ Same V H ∧ RepL K V vs ds ∧ match m ds with
  | .ok d => ∀ v H' V', Ext H V H' V' → Rep K V' v d → Q v H'
  | .exc c => ∀ H' V', Ext H V H' V' → E (.ref (He.ga K c)) none H'
  | .bad => False
def FnD (P : Program) (w : World) (K : PySem.W.Frag) (mg : Str → Option Value) (base : Heap) (lvl : Nat) (x : Str) (ps : List Str) (m : List PyData → R PyData) : Prop :=
  ∃ fd, FnOk P w K mg base (L2N.CX P w) lvl (He.ga K x) fd ps (spF ⟨K, w⟩ ps.length m) ∧ Binds K fd ps [] ∧ PySem.W.keepIn K (.ref (He.ga K x)) = true ∧ mg x = some (.ref (He.ga K x)) ∧ ∀ ds, m ds ≠ .bad → ds.length = ps.length
theorem FnD.mono {P : Program} {w : World} {K : PySem.W.Frag} {mg : Str → Option Value} {base : Heap} {j k : Nat} {x : Str} {ps : List Str} {m : List PyData → R PyData} (F : FnD P w K mg base j x ps m) (h : j ≤ k) : FnD P w K mg base k x ps m := by
  obtain ⟨fd, h1, h2⟩ := F
  exact ⟨fd, h1.mono h, h2⟩
theorem start0_ob {n : Nat} {ds : List PyData} {i : Nat} {o : Ob} (h : (start0 n ds)[i]? = some (.ob o)) : False := by
  unfold start0 at h
  by_cases hi : i < ds.length
  · rw [List.getElem?_append_left (by simpa using hi), List.getElem?_map] at h
    obtain ⟨d', h1, h2⟩ := Option.map_eq_some_iff.mp h
    cases h2
  · rw [List.getElem?_append_right (by simpa using hi), List.getElem?_replicate] at h
    split at h <;> cases h
abbrev mkF (H V : Hp) (E : XK) : Fr := ⟨H, V, none, fun cls _ H' => E cls none H', 0, fun _ => False⟩
theorem repL_get {K : KW} {V : Hp} {vs : List L2.V} {ds : List PyData} (r : RepL K V vs ds) {n : Nat} {N : List Str} (hn : N.length = n) (hle : vs.length ≤ n) {H : Hp} {E : XK} (s : Same V H) (ht : TabV H V) : EnvR K (mkF H V E) H V (L2.start N vs) (start0 n ds) := by
  have hl := r.length
  refine ⟨by simp [L2.start, start0, hl, hn], Ext.refl s, fun i d h => ?_, fun i d h => ?_, fun i j a d e h => ?_, (fun a h => by cases h), ht, ObE.non fun i o h => start0_ob h⟩
  · unfold start0 at h
    unfold L2.start
    by_cases hi : i < ds.length
    · rw [List.getElem?_append_left (by simpa using hi), List.getElem?_map] at h
      obtain ⟨d', h1, h2⟩ := Option.map_eq_some_iff.mp h
      cases h2
      obtain ⟨v, h3, h4⟩ := r.get i h1
      exact ⟨v, by rw [List.getElem?_append_left (by rw [List.length_map]; omega), List.getElem?_map, h3]; rfl, h4⟩
    · rw [List.getElem?_append_right (by simpa using hi), List.getElem?_replicate] at h
      split at h <;> cases h
  · unfold start0 at h
    by_cases hi : i < ds.length
    · rw [List.getElem?_append_left (by simpa using hi), List.getElem?_map] at h
      obtain ⟨d', h1, h2⟩ := Option.map_eq_some_iff.mp h
      cases h2
    · rw [List.getElem?_append_right (by simpa using hi), List.getElem?_replicate] at h
      split at h <;> cases h
  · unfold start0 at h
    by_cases hi : i < ds.length
    · rw [List.getElem?_append_left (by simpa using hi), List.getElem?_map] at h
      obtain ⟨d', h1, h2⟩ := Option.map_eq_some_iff.mp h
      cases h2
    · rw [List.getElem?_append_right (by simpa using hi), List.getElem?_replicate] at h
      split at h <;> cases h
section
variable {P : Program} {w : World} {K : PySem.W.Frag} {mg : Str → Option Value} {base : Heap} {x : Str} {params : Arguments} {body : List Stmt} {scope : Scope} {fd : FuncData}
abbrev cxF (P : Program) (w : World) (K : PySem.W.Frag) (mg : Str → Option Value) (base : Heap) (N : List Str) (x : Str) (scope : Scope) (cdv : Value) (A : Around) (outer : List Env) (s : Shared) (H : Hp) (E : XK) : Cx := cxOf (L2N.CX P w) P w K mg base N x scope (He.ga K x) cdv A outer s H E
theorem tk_fn {N : List Str} {cdv : Value} {A : Around} {outer : List Env} {s : Shared} {H : Hp} {E : XK} {H0 V0 : Hp} {l : Option Addr} {n0 : Nat} {ob0 : Addr → Prop} : Tk (cxF P w K mg base N x scope cdv A outer s H E) ⟨H0, V0, l, fun cls _ H' => E cls none H', n0, ob0⟩ := by
  have t : L2N.Takes (cxF P w K mg base N x scope cdv A outer s H E) (fun cls d _ H' => E cls d H') := L2N.takes_of rfl rfl rfl rfl
  refine t.imp fun c d σ H' ⟨h1, h2⟩ => ?_
  rw [h1]
  exact h2
theorem fn_mk {N ps : List Str} {k : Nat} {f : SM} (D : FunD K x x params body scope [] [] (He.ga K x) fd) (hx : mg x = some (.ref (He.ga K x))) (S : FnScope N ps scope)
    (hbd : ∀ (kV doc pm : Value) (an : Option Addr) (cdv ct : Value) (us : List Value), us.length = ps.length → bindArgs (PySem.W.fnOf x x params body scope .none kV doc pm an cdv ct) ⟨us, []⟩ = pure (ps.zip us))
    (hps : ps.length ≤ N.length)
    (hb : ∀ (cdv : Value) (A : Around) (outer : List Env) (s : Shared) (H V : Hp) (E : XK), Room k (A.deeper (envOfC x scope s.heap.objs.size (He.ga K x) cdv)) → PMSs (cxF P w K mg base N x scope cdv A outer s H E) (mkF H V E) body f) :
    FnD P w K mg base (k + 1) x ps (fnRun ps.length N.length f) := by
  refine ⟨fd, D.ok (CX := L2N.CX P w) S (fun vs H Q E h => h.1) fun cdv A outer s H vs Q E hr h => ?_, D.bindsN hbd, D.kp, hx, fun ds h => ?_⟩
  · obtain ⟨hl, V, ds, ht, sv, r, g⟩ := h
    refine ⟨_, hb cdv A outer s H V E hr, V, start0 N.length ds, repL_get r rfl (by omega) sv ht, ?_⟩
    unfold fnRun at g
    rw [if_pos (by rw [← r.length]; exact hl)] at g
    show GoalS ⟨K, w⟩ (mkF H V E) V (f (start0 N.length ds)) _
    cases e : f (start0 N.length ds) with
    | rt d ρ' => rw [e] at g; exact fun v σ' H' V' E' _ r' => g v H' V' E'.ext r'
    | rf d ρ' => rw [e] at g; exact fun v σ' H' V' E' _ r' _ => g v H' V' E'.ext r'
    | nx ρ' => rw [e] at g; exact fun σ' H' V' E' _ => g .non H' V' E'.ext .non
    | exc c => rw [e] at g; exact fun σ' H' V' x => g H' V' x
    | bk ρ' => rw [e] at g; exact False.elim g
    | ct ρ' => rw [e] at g; exact False.elim g
    | bad => rw [e] at g; exact False.elim g
  · unfold fnRun at h
    by_cases hl : ds.length = ps.length
    · exact hl
    · rw [if_neg hl] at h; exact absurd rfl h
end
section
variable {X : Cx} {F : Fr} {e : Expr} {es : List Expr} {fs : M (List PyData)} {pos p : Pos}
/-- f(..) -/
theorem pm_call {lvl : Nat} {x : Str} {ps : List Str} {m : List PyData → R PyData} (G : FnD X.prog X.w X.K X.mg X.base lvl x ps m) (hr : Room lvl X.A) (tk : Tk X F) (ha : PMA X F (e :: es) fs) (hg : Gl X x := by rfl)
    (hdb : (x == ("__debug__" : Str)) = false := by decide) (he : starEach (e :: es) X.env = (false, eval e X.env) :: starEach es X.env := by rfl) (hpl : (backTo pos (starEach es X.env)).any (·.1) = false := by rfl) : PM X F (.Call (.Name x p) (e :: es) [] pos) (callM m fs) := by
  obtain ⟨fd, G1, G2, G3, G4, G5⟩ := G
  refine PE.imp (pe_callS G1 hr hg G4 G3 G2 (fun σ => L2N.passAt tk σ) ha hdb he hpl) fun σ H Q ⟨V, ρ, E, g0⟩ => ⟨V, ρ, E, Goal.bind g0 fun vs ds H1 V1 ρ1 st1 r1 g1 => ?_⟩
  unfold M.lift at g1
  cases em : m ds with
  | ok d =>
    rw [em] at g1
    refine ⟨by rw [r1.length]; exact G5 ds (by rw [em]; exact fun z => nomatch z), V1, ds, st1.env.tabs, st1.env.sub, r1, ?_⟩
    rw [em]
    exact fun v H' V' x r => g1 v H' V' (st1.env.step x) r
  | exc c =>
    rw [em] at g1
    refine ⟨by rw [r1.length]; exact G5 ds (by rw [em]; exact fun z => nomatch z), V1, ds, st1.env.tabs, st1.env.sub, r1, ?_⟩
    rw [em]
    exact fun H' V' x => ⟨rfl, g1 H' V' (st1.env.ext.trans x)⟩
  | bad => rw [em] at g1; exact False.elim g1
end
def Fr.nox (F : Fr) : Fr := { F with W := fun _ _ _ => False }
theorem EnvR.nox {K : KW} {F : Fr} {H V : Hp} {σ : St} {ρ : Rho} (E : EnvR K F H V σ ρ) : EnvR K F.nox H V σ ρ := ⟨E.len, E.ext, E.sh, E.ow, E.dis, E.lent, E.tab, ⟨E.ob.at_, E.ob.dis⟩⟩
theorem EnvR.unnox {K : KW} {F : Fr} {H V : Hp} {σ : St} {ρ : Rho} (E : EnvR K F.nox H V σ ρ) : EnvR K F H V σ ρ := ⟨E.len, E.ext, E.sh, E.ow, E.dis, E.lent, E.tab, ⟨E.ob.at_, E.ob.dis⟩⟩
theorem Stp.unnox {K : KW} {F : Fr} {σ : St} {ρ ρ' : Rho} {H V H' V' : Hp} (s : Stp K F.nox σ ρ ρ' H V H' V') : Stp K F σ ρ ρ' H V H' V' := ⟨s.env.unnox, s.v, s.keep, s.own, s.shs, s.f, s.th⟩
theorem tk_nox {X : Cx} {F : Fr} : Tk X F.nox := L2N.Takes.imp takesN0 fun _ _ _ _ h => h.2
def wipeR (ρ : Rho) : List Nat → Rho
  | [] => ρ
  | v :: vs => (wipeR ρ vs).set v .no
def isOw : Option Sl → Bool
  | some (.ow _) => true
  | some (.ob _) => true
  | _ => false
def isOwn1 : Option Sl → Bool
  | some (.ow _) => true
  | _ => false
/-- the slots vs of ρ, the others of ρ' -/
def resR (ρ ρ' : Rho) : List Nat → Rho
  | [] => ρ'
  | v :: vs => (resR ρ ρ' vs).set v (ρ.getD v .no)
def lcLoop (vs : List Nat) (g : GM) (t : M Bool) (e : M PyData) : List PyData → Rho → List PyData → R (List PyData × Rho)
  | [], ρ, acc => .ok (acc, ρ)
  | d :: ds, ρ, acc => match g d (wipeR ρ vs) with
    | .ok ρ1 => (match t ρ1 with
      | .ok (true, ρ2) => (match e ρ2 with
        | .ok (y, ρ3) => if acc.length < LIM then lcLoop vs g t e ds ρ3 (acc ++ [y]) else .bad
        | _ => .bad)
      | .ok (false, ρ2) => lcLoop vs g t e ds ρ2 acc
      | _ => .bad)
    | _ => .bad
def lcM (vs : List Nat) (a : M (List PyData)) (g : GM) (t : M Bool) (e : M PyData) : M PyData := M.bind a fun ds ρ => if vs.any (fun i => isOw ρ[i]?) = true then .bad else (match lcLoop vs g t e ds ρ [] with
  | .ok (acc, ρ') => .ok (.list acc, resR ρ ρ' vs)
  | _ => .bad)
theorem wipeR_len (ρ : Rho) : ∀ vs, (wipeR ρ vs).length = ρ.length
  | [] => rfl
  | v :: vs => by unfold wipeR; rw [List.length_set, wipeR_len ρ vs]
theorem wipeR_some {ρ : Rho} {i : Nat} {s : Sl} : s ≠ .no → ∀ {vs : List Nat}, (wipeR ρ vs)[i]? = some s → ρ[i]? = some s ∧ i ∉ vs
  | hs, [], h => ⟨h, by simp⟩
  | hs, v :: vs, h => by
    unfold wipeR at h
    by_cases hi : v = i
    · subst hi
      by_cases hv : v < (wipeR ρ vs).length
      · rw [List.getElem?_set_self hv] at h; cases h; exact absurd rfl hs
      · rw [List.getElem?_eq_none (by simpa using hv)] at h; cases h
    · rw [List.getElem?_set_ne hi] at h
      obtain ⟨h1, h2⟩ := wipeR_some hs h
      exact ⟨h1, by simp only [List.mem_cons, not_or]; exact ⟨fun e => hi e.symm, h2⟩⟩
theorem wipeR_out {ρ : Rho} {i : Nat} : ∀ {vs : List Nat}, i ∉ vs → (wipeR ρ vs)[i]? = ρ[i]?
  | [], _ => rfl
  | v :: vs, h => by
    unfold wipeR
    rw [List.getElem?_set_ne (fun e => h (by rw [e]; exact List.mem_cons_self)), wipeR_out fun z => h (List.mem_cons_of_mem _ z)]
theorem wipe_outL {σ : St} {i : Nat} : ∀ {vs : List Nat}, i ∉ vs → (wipe σ vs)[i]? = σ[i]?
  | [], _ => rfl
  | v :: vs, h => by
    unfold wipe
    rw [List.getElem?_set_ne (fun e => h (by rw [e]; exact List.mem_cons_self)), wipe_outL fun z => h (List.mem_cons_of_mem _ z)]
theorem wipe_in {σ : St} {i : Nat} : ∀ {vs : List Nat}, i ∈ vs → i < σ.length → (wipe σ vs)[i]? = some none
  | v :: vs, h, hl => by
    unfold wipe
    by_cases e : v = i
    · subst e; exact List.getElem?_set_self (by rw [wipe_length]; exact hl)
    · rw [List.getElem?_set_ne e]
      rcases List.mem_cons.mp h with z | z
      · exact absurd z.symm e
      · exact wipe_in z hl
theorem wipe_wipe (σ : St) (vs : List Nat) : wipe (wipe σ vs) vs = wipe σ vs := by
  apply List.ext_getElem?
  intro i
  by_cases h : i ∈ vs
  · by_cases hl : i < σ.length
    · rw [wipe_in h (by rw [wipe_length]; exact hl), wipe_in h hl]
    · rw [List.getElem?_eq_none (by simp only [wipe_length]; omega), List.getElem?_eq_none (by simp only [wipe_length]; omega)]
  · rw [wipe_outL h]
theorem resR_len (ρ ρ' : Rho) : ∀ vs, (resR ρ ρ' vs).length = ρ'.length
  | [] => rfl
  | v :: vs => by unfold resR; rw [List.length_set, resR_len ρ ρ' vs]
theorem resR_out {ρ ρ' : Rho} {i : Nat} : ∀ {vs : List Nat}, i ∉ vs → (resR ρ ρ' vs)[i]? = ρ'[i]?
  | [], _ => rfl
  | v :: vs, h => by
    unfold resR
    rw [List.getElem?_set_ne (fun e => h (by rw [e]; exact List.mem_cons_self)), resR_out fun z => h (List.mem_cons_of_mem _ z)]
theorem resR_in {ρ ρ' : Rho} {i : Nat} : ∀ {vs : List Nat}, i ∈ vs → i < ρ'.length → (resR ρ ρ' vs)[i]? = some (ρ.getD i .no)
  | v :: vs, h, hl => by
    unfold resR
    by_cases e : v = i
    · subst e; exact List.getElem?_set_self (by rw [resR_len]; exact hl)
    · rw [List.getElem?_set_ne e]
      rcases List.mem_cons.mp h with z | z
      · exact absurd z.symm e
      · exact resR_in z hl
section
variable {K : KW} {F : Fr} {σ : St} {ρ ρ1 : Rho} {H V H1 V1 : Hp}
theorem EnvR.wipe (E : EnvR K F H V σ ρ) {vs : List Nat} (hl : F.ls ∉ vs ∨ F.lent = none) : EnvR K F H V (wipe σ vs) (wipeR ρ vs) := by
  refine ⟨by rw [wipe_length, wipeR_len, E.len], E.ext, fun i d h => ?_, fun i d h => ?_, fun i j a d e h1 h2 h3 h4 => ?_, fun a ha => ?_, E.tab, E.ob.sub fun i o h => by
    obtain ⟨h1, h2⟩ := wipeR_some (by intro z; cases z) h
    exact ⟨h1, wipe_outL h2⟩⟩
  · obtain ⟨h1, h2⟩ := wipeR_some (by intro z; cases z) h
    rw [wipe_outL h2]
    exact E.sh i d h1
  · obtain ⟨h1, h2⟩ := wipeR_some (by intro z; cases z) h
    rw [wipe_outL h2]
    exact E.ow i d h1
  · obtain ⟨h1, n1⟩ := wipeR_some (by intro z; cases z) h1
    obtain ⟨h2, n2⟩ := wipeR_some (by intro z; cases z) h2
    rw [wipe_outL n1] at h3
    rw [wipe_outL n2] at h4
    exact E.dis i j a d e h1 h2 h3 h4
  · rcases hl with hl | hl
    · rw [wipe_outL hl]; exact E.lent a ha
    · rw [hl] at ha; cases ha
theorem isOwn_wipe {vs : List Nat} {b : Addr} (h : IsOwn (L2.wipe σ vs) (wipeR ρ vs) b) : IsOwn σ ρ b := by
  obtain ⟨i, d, h1, h2⟩ := h
  obtain ⟨h1, n1⟩ := wipeR_some (by intro z; cases z) h1
  rw [wipe_outL n1] at h2
  exact ⟨i, d, h1, h2⟩
/-- a cell beside: not seen, of no slot -/
theorem EnvR.beside (E : EnvR K F H V σ ρ) {p : Addr} {o : HO} (hp : ∀ x, H p = some x → Plain x) (h1 : V p = none) (h2 : F.H0 p = none) (h3 : ¬ IsOwn σ ρ p) : EnvR K F (upd H p o) V σ ρ := by
  refine ⟨E.len, ⟨fun b x e n => ?_, E.ext.v, fun b x e => ?_, E.ext.f, fun b h => ?_, fun t => tabs_upd hp (E.ext.t t)⟩, E.sh, fun i d h => ?_, E.dis, E.lent, E.tab, E.ob⟩
  · rw [upd_ne (fun z => by rw [z, h2] at e; cases e)]; exact E.ext.h b x e n
  · rw [upd_ne (fun z => by rw [z, h1] at e; cases e)]; exact E.ext.s b x e
  · rw [upd_ne (fun z => h (by rw [z]; exact h2))]; exact E.ext.th b h
  · obtain ⟨a, q1, q2, q3, q4⟩ := E.ow i d h
    refine ⟨a, q1, q2, q3, q4.mono (Same.refl _) fun o e _ => ?_⟩
    rw [upd_ne (fun z => h3 ⟨i, d, h, by rw [← z]; exact q1⟩)]
    exact e
/-- .. that comes to be seen -/
theorem EnvR.show (E : EnvR K F H V σ ρ) {p : Addr} {o : HO} (h0 : H p = some o) (h1 : V p = none) (h2 : F.H0 p = none) (h3 : ¬ IsOwn σ ρ p) : EnvR K F H (upd V p o) σ ρ := by
  have sv : Same V (upd V p o) := same_new h1
  refine ⟨E.len, ⟨E.ext.h, E.ext.v.trans sv, fun b x e => ?_, fun b q1 q2 => ?_, E.ext.th, E.ext.t⟩, fun i d h => ?_, fun i d h => ?_, E.dis, E.lent, E.tab, E.ob⟩
  · by_cases hb : b = p
    · subst hb; rw [upd_same] at e; cases e; exact h0
    · rw [upd_ne hb] at e; exact E.ext.s b x e
  · rw [upd_ne (fun z => q2 (by rw [z]; exact h2))]; exact E.ext.f b q1 q2
  · obtain ⟨v, q1, q2⟩ := E.sh i d h
    exact ⟨v, q1, q2.mono sv⟩
  · obtain ⟨a, q1, q2, q3, q4⟩ := E.ow i d h
    exact ⟨a, q1, by rw [upd_ne (fun z => h3 ⟨i, d, h, by rw [← z]; exact q1⟩)]; exact q2, q3, q4.mono sv fun _ e _ => e⟩
theorem EnvR.restore (E : EnvR K F H V σ ρ) (E1 : EnvR K F H1 V1 (L2.wipe σ vs) (wipeR ρ1 vs)) (v : Same V V1) (hv : ∀ i ∈ vs, isOw ρ[i]? = false) : EnvR K F H1 V1 σ (resR ρ ρ1 vs) := by
  have l1 : σ.length = ρ1.length := by
    have := E1.len
    rw [wipe_length, wipeR_len] at this
    exact this
  have ob1 : ∀ (i : Nat) (o : Ob), (resR ρ ρ1 vs)[i]? = some (.ob o) → (wipeR ρ1 vs)[i]? = some (.ob o) ∧ σ[i]? = (L2.wipe σ vs)[i]? := fun i o h => by
    have hi : i ∉ vs := fun hi => by
      by_cases hl : i < ρ1.length
      · rw [resR_in hi hl] at h
        have h' : ρ.getD i .no = .ob o := Option.some.inj h
        rw [List.getD_eq_getElem?_getD] at h'
        have q0 := hv i hi
        cases q : ρ[i]? with
        | none => rw [q] at h'; cases h'
        | some s =>
          rw [q] at h' q0
          have h' : s = .ob o := h'
          subst h'
          cases q0
      · rw [List.getElem?_eq_none (by rw [resR_len]; omega)] at h; cases h
    rw [resR_out hi] at h
    exact ⟨by rw [wipeR_out hi]; exact h, (wipe_outL hi).symm⟩
  refine ⟨by rw [resR_len]; exact l1, E1.ext, fun i d h => ?_, fun i d h => ?_, fun i j a d e h1 h2 h3 h4 => ?_, E.lent, E.tab, E1.ob.sub ob1⟩
  · by_cases hi : i ∈ vs
    · by_cases hl : i < ρ1.length
      · rw [resR_in hi hl] at h
        have h' : ρ.getD i .no = .sh d := Option.some.inj h
        rw [List.getD_eq_getElem?_getD] at h'
        cases q : ρ[i]? with
        | none => rw [q] at h'; cases h'
        | some s =>
          rw [q] at h'
          have h' : s = .sh d := h'
          subst h'
          obtain ⟨x, q1, q2⟩ := E.sh i d q
          exact ⟨x, q1, q2.mono v⟩
      · rw [List.getElem?_eq_none (by rw [resR_len]; omega)] at h; cases h
    · rw [resR_out hi] at h
      obtain ⟨x, q1, q2⟩ := E1.sh i d (by rw [wipeR_out hi]; exact h)
      rw [wipe_outL hi] at q1
      exact ⟨x, q1, q2⟩
  · have hi : i ∉ vs := fun hi => by
      by_cases hl : i < ρ1.length
      · rw [resR_in hi hl] at h
        have h' : ρ.getD i .no = .ow d := Option.some.inj h
        rw [List.getD_eq_getElem?_getD] at h'
        have q := hv i hi
        cases q' : ρ[i]? with
        | none => rw [q'] at h'; cases h'
        | some s =>
          rw [q'] at h' q
          have h' : s = .ow d := h'
          subst h'
          cases q
      · rw [List.getElem?_eq_none (by rw [resR_len]; omega)] at h; cases h
    rw [resR_out hi] at h
    obtain ⟨x, q1, q2⟩ := E1.ow i d (by rw [wipeR_out hi]; exact h)
    rw [wipe_outL hi] at q1
    exact ⟨x, q1, q2⟩
  · have no : ∀ {i : Nat} {d : PyData}, (resR ρ ρ1 vs)[i]? = some (.ow d) → i ∉ vs := fun {i d} h hi => by
      by_cases hl : i < ρ1.length
      · rw [resR_in hi hl] at h
        have h' : ρ.getD i .no = .ow d := Option.some.inj h
        rw [List.getD_eq_getElem?_getD] at h'
        have q := hv i hi
        cases q' : ρ[i]? with
        | none => rw [q'] at h'; cases h'
        | some s =>
          rw [q'] at h' q
          have h' : s = .ow d := h'
          subst h'
          cases q
      · rw [List.getElem?_eq_none (by rw [resR_len]; omega)] at h; cases h
    have n1 := no h1
    have n2 := no h2
    rw [resR_out n1] at h1
    rw [resR_out n2] at h2
    exact E1.dis i j a d e (by rw [wipeR_out n1]; exact h1) (by rw [wipeR_out n2]; exact h2) (by rw [wipe_outL n1]; exact h3) (by rw [wipe_outL n2]; exact h4)
end
section
variable {X : Cx} {F : Fr}
def PMTs (X : Cx) (F : Fr) (ifs : List Expr) (f : M Bool) : Prop := PTs X ifs (tMT X.kw F f)
def yesT : M Bool := M.pure true
theorem PTs.imp {X : Cx} {e : List Expr} {t u : TT} (h : PTs X e t) (i : ∀ σ H Q, u σ H Q → t σ H Q) : PTs X e u := by
  obtain ⟨r⟩ := h
  exact ⟨fun pins s σ H Q I q => r pins s σ H Q I (i σ H Q q)⟩
theorem pmts_nil : PMTs X F [] yesT := PTs.imp pts_nil fun σ H Q ⟨V, ρ, E, g⟩ => Goal.pure0 E g rfl
theorem pmts_one {c : Expr} {ft : M Bool} (h : PMT X F c ft) : PMTs X F [c] ft := pts_one h
/-- what holds of a comprehension's new list at D, its values ys, data acc, within the block: slots σ', data ρ' -/
structure LI (K : KW) (F : Fr) (vs : List Nat) (σ : St) (ρ1 : Rho) (H1 V1 : Hp) (D : Addr) (σ' : St) (ρ' : Rho) (H' V' : Hp) (ys : List L2.V) (acc : List PyData) : Prop where
  env : EnvR K F H' V' σ' ρ'
  sv : Same V1 V'
  hD : H' D = some (.lst ys)
  rl : RepL K V' ys acc
  vD : V' D = none
  ho : ∀ b, IsOwn σ' ρ' b → IsOwn σ ρ1 b
  kp : ∀ b o, H1 b = some o → nT o → ¬ IsOwn σ ρ1 b → H' b = some o
  sh : ∀ (j : Nat) (d : PyData), j ∉ vs → ρ'[j]? = some (.sh d) → ρ1[j]? = some (.sh d)
  fr : ∀ b, V1 b = none → H1 b ≠ none → V' b = none
  th : ∀ b, H1 b ≠ none → H' b ≠ none
  nD : ¬ IsOwn σ ρ1 D
  h0 : F.H0 D = none
  h1 : H1 D = none
section
variable {K : KW} {F : Fr} {vs : List Nat} {σ : St} {ρ1 : Rho} {H1 V1 : Hp} {D : Addr} {σ' σ2 : St} {ρ' ρ2 : Rho} {H' V' H2 V2 : Hp} {ys : List L2.V} {acc : List PyData}
theorem LI.start (E : EnvR K F H1 V1 σ ρ1) (hD : H1 D = none) : LI K F vs σ ρ1 H1 V1 D σ ρ1 (upd H1 D (.lst [])) V1 [] [] where
  env := E.grow (Ext.hid E.sub hD)
  sv := Same.refl _
  hD := upd_same
  rl := .nil
  vD := E.sub.free hD
  ho := fun _ h => h
  kp := fun b o q _ _ => same_new hD b o q
  sh := fun _ _ _ q => q
  fr := fun _ q _ => q
  th := Same.th (same_new hD)
  nD := fun h => by
    obtain ⟨i, d, h1, h2⟩ := h
    obtain ⟨a, q1, q2, q3, q4⟩ := E.ow i d h1
    have e : a = D := by rw [h2] at q1; exact (L2.V.ref.inj (Option.some.inj (Option.some.inj q1))).symm
    obtain ⟨o, q5, _⟩ := q4.there
    rw [e, hD] at q5
    cases q5
  h0 := E.ext.free hD
  h1 := hD
theorem LI.someD (I : LI K F vs σ ρ1 H1 V1 D σ' ρ' H' V' ys acc) : H' D ≠ none := by rw [I.hD]; exact fun z => nomatch z
theorem LI.wipe (I : LI K F vs σ ρ1 H1 V1 D σ' ρ' H' V' ys acc) (ws : List Nat) (hl : F.ls ∉ ws ∨ F.lent = none) : LI K F vs σ ρ1 H1 V1 D (L2.wipe σ' ws) (wipeR ρ' ws) H' V' ys acc :=
  { I with env := I.env.wipe hl, ho := fun b h => I.ho b (isOwn_wipe h), sh := fun j d hj q => I.sh j d hj (wipeR_some (by intro z; cases z) q).1 }
theorem LI.ext (I : LI K F vs σ ρ1 H1 V1 D σ' ρ' H' V' ys acc) (x : Ext H' V' H2 V2) : LI K F vs σ ρ1 H1 V1 D σ' ρ' H2 V2 ys acc :=
  { I with env := I.env.grow x, sv := I.sv.trans x.v, hD := x.h _ _ I.hD plain_lst.t, rl := I.rl.mono x.v, vD := x.f D I.vD I.someD, kp := fun b o q n m => x.h _ _ (I.kp b o q n m) n, fr := fun b h1 h2 => x.f b (I.fr b h1 h2) (I.th b h2), th := fun b h => x.th b (I.th b h) }
theorem LI.tgt {is : List Nat} (I : LI K F vs σ ρ1 H1 V1 D σ' ρ' H' V' ys acc) (E : EnvR K F H2 V2 σ2 ρ2) (x : Ext H' V' H2 V2) (o : ∀ b, IsOwn σ2 ρ2 b → IsOwn σ' ρ' b) (p : ∀ (i : Nat) (d : PyData), i ∉ is → ρ2[i]? = some (.sh d) → ρ'[i]? = some (.sh d)) (his : ∀ i ∈ is, i ∈ vs) :
    LI K F vs σ ρ1 H1 V1 D σ2 ρ2 H2 V2 ys acc :=
  { I.ext x with env := E, ho := fun b h => I.ho b (o b h), sh := fun j d hj q => I.sh j d hj (p j d (fun z => hj (his j z)) q) }
theorem LI.stp (I : LI K F vs σ ρ1 H1 V1 D σ' ρ' H' V' ys acc) (s : Stp K F σ' ρ' ρ2 H' V' H2 V2) : LI K F vs σ ρ1 H1 V1 D σ' ρ2 H2 V2 ys acc where
  env := s.env
  sv := I.sv.trans s.v
  hD := s.keep _ _ I.hD plain_lst.t fun h => I.nD (I.ho D h)
  rl := I.rl.mono s.v
  vD := s.f D I.vD I.someD
  ho := fun b h => I.ho b (s.own b h)
  kp := fun b o q n m => s.keep b o (I.kp b o q n m) n fun h => m (I.ho b h)
  sh := fun j d hj q => I.sh j d hj (s.shs j d q)
  fr := fun b h1 h2 => s.f b (I.fr b h1 h2) (I.th b h2)
  th := fun b h => s.th b (I.th b h)
  nD := I.nD
  h0 := I.h0
  h1 := I.h1
theorem LI.app {y : L2.V} {d : PyData} (I : LI K F vs σ ρ1 H1 V1 D σ' ρ' H' V' ys acc) (r : Rep K V' y d) : LI K F vs σ ρ1 H1 V1 D σ' ρ' (upd H' D (.lst (ys ++ [y]))) V' (ys ++ [y]) (acc ++ [d]) := by
  refine ⟨I.env.beside (fun x e => by rw [I.hD] at e; cases e; exact plain_lst) I.vD I.h0 fun h => I.nD (I.ho D h), I.sv, upd_same, I.rl.append (.cons r .nil), I.vD, I.ho, fun b o q n m => ?_, I.sh, I.fr, fun b h => ?_, I.nD, I.h0, I.h1⟩
  · rw [upd_ne (fun z => by rw [z, I.h1] at q; cases q)]
    exact I.kp b o q n m
  · rw [upd_ne (fun z => h (by rw [z]; exact I.h1))]
    exact I.th b h
theorem resR_ow {ρ1 ρ' : Rho} {vs : List Nat} (hv : ∀ i ∈ vs, isOw ρ1[i]? = false) {j : Nat} {d : PyData} (h : (resR ρ1 ρ' vs)[j]? = some (.ow d)) : j ∉ vs := fun hj => by
  by_cases hl : j < ρ'.length
  · rw [resR_in hj hl] at h
    have h' : ρ1.getD j .no = .ow d := Option.some.inj h
    rw [List.getD_eq_getElem?_getD] at h'
    have q := hv j hj
    cases q' : ρ1[j]? with
    | none => rw [q'] at h'; cases h'
    | some s =>
      rw [q'] at h' q
      have h' : s = .ow d := h'
      subst h'
      cases q
  · rw [List.getElem?_eq_none (by rw [resR_len]; omega)] at h; cases h
/-- the list is done -/
theorem LI.done (E : EnvR K F H1 V1 σ ρ1) (I : LI K F vs σ ρ1 H1 V1 D (L2.wipe σ vs) (wipeR ρ' vs) H' V' ys acc) (hv : ∀ i ∈ vs, isOw ρ1[i]? = false) :
    Stp K F σ ρ1 (resR ρ1 ρ' vs) H1 V1 H' (upd V' D (.lst ys)) ∧ Rep K (upd V' D (.lst ys)) (.ref D) (.list acc) := by
  have nD : ¬ IsOwn (L2.wipe σ vs) (wipeR ρ' vs) D := fun h => I.nD (I.ho D h)
  have Es : EnvR K F H' (upd V' D (.lst ys)) (L2.wipe σ vs) (wipeR ρ' vs) := I.env.show I.hD I.vD I.h0 nD
  have svD : Same V' (upd V' D (.lst ys)) := same_new I.vD
  refine ⟨⟨E.restore Es (I.sv.trans svD) hv, I.sv.trans svD, I.kp, fun b h => ?_, fun j d q => ?_, fun b h1 h2 => ?_, I.th⟩, .lst upd_same (I.rl.mono svD)⟩
  · obtain ⟨j, d, h1, h2⟩ := h
    have nj := resR_ow hv h1
    rw [resR_out nj] at h1
    exact I.ho b ⟨j, d, by rw [wipeR_out nj]; exact h1, by rw [wipe_outL nj]; exact h2⟩
  · by_cases hj : j ∈ vs
    · by_cases hl : j < ρ'.length
      · rw [resR_in hj hl] at q
        have h' : ρ1.getD j .no = .sh d := Option.some.inj q
        rw [List.getD_eq_getElem?_getD] at h'
        cases q' : ρ1[j]? with
        | none => rw [q'] at h'; cases h'
        | some s =>
          rw [q'] at h'
          have h' : s = .sh d := h'
          rw [h']
      · rw [List.getElem?_eq_none (by rw [resR_len]; omega)] at q; cases q
    · rw [resR_out hj] at q
      exact I.sh j d hj (by rw [wipeR_out hj]; exact q)
  · rw [upd_ne (fun z => h2 (by rw [z]; exact I.h1))]
    exact I.fr b h1 h2
end
theorem lcM_run {vs : List Nat} {l : R (List PyData × Rho)} {K : KW} {σ : St} {ρ1 : Rho} {H1 V1 : Hp} {Q : VK} (g1 : Goal K F σ ρ1 H1 V1 (Rep K) (if (vs.any fun i => isOw ρ1[i]?) = true then .bad else (match l with
      | .ok (acc, ρ') => .ok (.list acc, resR ρ1 ρ' vs)
      | _ => .bad)) Q) : ∃ acc ρ', l = .ok (acc, ρ') ∧ (∀ i ∈ vs, isOw ρ1[i]? = false) ∧ ∀ b H' V', Stp K F σ ρ1 (resR ρ1 ρ' vs) H1 V1 H' V' → Rep K V' b (.list acc) → Q b H' := by
  by_cases hany : (vs.any fun i => isOw ρ1[i]?) = true
  · rw [if_pos hany] at g1
    exact False.elim g1
  · rw [if_neg hany] at g1
    have hv : ∀ i ∈ vs, isOw ρ1[i]? = false := fun i hi => by
      cases q : isOw ρ1[i]? with
      | false => rfl
      | true => exact absurd (List.any_eq_true.mpr ⟨i, hi, q⟩) hany
    cases l with
    | exc c => exact False.elim g1
    | bad => exact False.elim g1
    | ok pr =>
      obtain ⟨acc, ρ'⟩ := pr
      exact ⟨acc, ρ', rfl, hv, g1⟩
theorem lc_of {K : KW} {vs is : List Nat} {fi : M (List PyData)} {g : GM} {ft : M Bool} {fe : M PyData} (his : ∀ i ∈ is, i ∈ vs) (hl : F.ls ∉ vs ∨ F.lent = none) {σ : St} {H : Hp} {Q : VK} (h : tM K F (lcM vs fi g ft fe) σ H Q) :
    tLc (tI K F fi) (tGM K F.nox is g) (tMT K F.nox ft) (tM K F.nox fe) vs σ H Q := by
  obtain ⟨V, ρ, E, g0⟩ := h
  refine ⟨V, ρ, E, Goal.bind g0 fun J ds H1 V1 ρ1 st1 it g1 => fun D hD => ?_⟩
  obtain ⟨acc, ρ', hL, hv, q⟩ := lcM_run g1
  refine ⟨fun i m H' => m = ds.length - i ∧ i ≤ ds.length ∧ ∃ V' ρc ys accd, LI K F vs σ ρ1 H1 V1 D (L2.wipe σ vs) (wipeR ρc vs) H' V' ys accd ∧ lcLoop vs g ft fe (ds.drop i) ρc accd = .ok (acc, ρ'),
    ⟨ds.length, rfl, Nat.zero_le _, V1, ρ1, [], [], (LI.start st1.env hD).wipe vs hl, hL⟩, ?_⟩
  rintro i m H' ⟨rfl, hle, V', ρc, ys, accd, I, hE⟩
  obtain ⟨i1, i2⟩ := it i H' V' I.sv I.env.sub
  by_cases hlt : i < ds.length
  · obtain ⟨go, yl⟩ := i1 _ (List.getElem?_eq_getElem hlt)
    rw [List.drop_eq_getElem_cons hlt] at hE
    refine .inr ⟨go, fun H2 => ∃ V' ρc ys accd, LI K F vs σ ρ1 H1 V1 D (L2.wipe σ vs) (wipeR ρc vs) H2 V' ys accd ∧ lcLoop vs g ft fe (ds.drop (i + 1)) ρc accd = .ok (acc, ρ'), fun H2 h => ⟨ds.length - (i + 1), by omega, rfl, hlt, h⟩, fun x H2 y => ?_⟩
    obtain ⟨V2, x2, r2⟩ := yl x H2 y
    have I2 := I.ext x2
    refine ⟨V2, wipeR ρc vs, ds[i], I2.env.nox, r2, ?_⟩
    unfold lcLoop at hE
    cases eg : g ds[i] (wipeR ρc vs) with
    | exc c => rw [eg] at hE; cases hE
    | bad => rw [eg] at hE; cases hE
    | ok ρ3 =>
      rw [eg] at hE
      intro σ3 H3 V3 E3 x3 w3 o3 p3
      have ew : L2.wipe σ3 vs = L2.wipe σ vs := (w3 vs his).trans (wipe_wipe σ vs)
      have I3 := I2.tgt E3.unnox x3 o3 p3 his
      refine ⟨ew, V3, ρ3, E3, ?_⟩
      have hE : (match ft ρ3 with
        | .ok (true, ρ2) => (match fe ρ2 with
          | .ok (y, ρ3) => if accd.length < LIM then lcLoop vs g ft fe (ds.drop (i + 1)) ρ3 (accd ++ [y]) else .bad
          | _ => .bad)
        | .ok (false, ρ2) => lcLoop vs g ft fe (ds.drop (i + 1)) ρ2 accd
        | _ => .bad) = .ok (acc, ρ') := hE
      show Goal K F.nox σ3 ρ3 H3 V3 (fun _ (b : Bool) a => b = a) (ft ρ3) _
      cases et : ft ρ3 with
      | exc c => rw [et] at hE; cases hE
      | bad => rw [et] at hE; cases hE
      | ok pt =>
        obtain ⟨bt, ρ4⟩ := pt
        rw [et] at hE
        intro b' H4 V4 st4 eb
        subst eb
        have I4 := I3.stp st4.unnox
        cases b' with
        | false =>
          show if false = true then _ else _
          rw [if_neg Bool.false_ne_true]
          have I5 := I4.wipe vs hl
          rw [ew] at I5
          exact ⟨V4, ρ4, ys, accd, I5, hE⟩
        | true =>
          rw [if_pos rfl]
          refine ⟨V4, ρ4, st4.env, ?_⟩
          have hE : (match fe ρ4 with
            | .ok (y, ρ3) => if accd.length < LIM then lcLoop vs g ft fe (ds.drop (i + 1)) ρ3 (accd ++ [y]) else .bad
            | _ => .bad) = .ok (acc, ρ') := hE
          cases ee : fe ρ4 with
          | exc c => rw [ee] at hE; cases hE
          | bad => rw [ee] at hE; cases hE
          | ok pe =>
            obtain ⟨yd, ρ5⟩ := pe
            rw [ee] at hE
            have hE : (if accd.length < LIM then lcLoop vs g ft fe (ds.drop (i + 1)) ρ5 (accd ++ [yd]) else .bad) = .ok (acc, ρ') := hE
            intro yv H5 V5 st5 ry
            by_cases hlm : accd.length < LIM
            · rw [if_pos hlm] at hE
              have I5 := I4.stp st5.unnox
              have I6 := (I5.app ry).wipe vs hl
              rw [ew] at I6
              exact ⟨ys, I5.hD, by rw [I5.rl.length]; exact Nat.lt_trans hlm lim_lt, V5, ρ5, _, _, I6, hE⟩
            · rw [if_neg hlm] at hE; cases hE
  · have ei : i = ds.length := by omega
    subst ei
    rw [List.drop_length] at hE
    have hE : R.ok (accd, ρc) = R.ok (acc, ρ') := hE
    injection hE with hE
    injection hE with ea er
    subst ea er
    obtain ⟨s1, s2⟩ := LI.done st1.env I hv
    exact .inl ⟨i2 rfl, q _ _ _ s1 s2⟩
abbrev Blk (X : Cx) (scope : Scope) (P : Cx → Prop) : Prop := ∀ (s : Shared) (H : Hp) (C : Addr) (cl : List (Str × Addr)) (fp : List Addr), P (X.blk s H scope (compEnvC scope cl C X.env) fp)
theorem pm_lc {elt tg iter : Expr} {ifs : List Expr} {scope : Scope} {pos : Pos} {fi : M (List PyData)} {is : List Nat} {g : GM} {ft : M Bool} {fe : M PyData} (own : List (Str × Nat)) (hi : PMI X F tg iter fi) (ok : BlkOk X.N X.env.scope scope own) (hN : X.N.Nodup)
    (hg : Blk X scope fun Y => PMG Y F.nox tg is g) (ht : Blk X scope fun Y => PMTs Y F.nox ifs ft) (he : Blk X scope fun Y => PM Y F.nox elt fe)
    (his : ∀ i ∈ is, i ∈ own.map (·.2) := by decide) (hl : F.ls ∉ own.map (·.2) ∨ F.lent = none := by first | exact Or.inr rfl | exact Or.inl (nm_ls rfl)) (hc : X.calm = true := by rfl) (hs : ∀ x, foldedSetIterable iter X.env x = pure x := by intro _; rfl) :
    PM X F (.ListComp elt [⟨tg, iter, ifs, 0⟩] scope pos) (lcM (own.map (·.2)) fi g ft fe) :=
  PE.imp (pe_lc (g := tGM X.kw F.nox is g) (tt := tMT X.kw F.nox ft) (te := tM X.kw F.nox fe) hc hN hi ok hg ht he hs) fun _ _ _ h => lc_of his hl h
theorem asg_of {f : M PyData} {i : Nat} {D : Ends} {σ : St} {H : Hp} {K : KW} (hl : i ≠ F.ls ∨ F.lent = none) (h : tS K F (asgO f (setS i)) D σ H) : tM K F f σ H fun x H1 => gName i x σ H1 D.nx := by
  obtain ⟨V, ρ, E, g⟩ := h
  refine ⟨V, ρ, E, Goal.ex g fun v d H1 V1 ρ1 st1 r1 g1 => ?_⟩
  unfold setS at g1
  by_cases hlt : i < ρ1.length
  · rw [if_pos hlt] at g1
    exact g1 _ _ _ (st1.env.setSh r1 hl) (Same.refl _)
  · rw [if_neg hlt] at g1
    exact False.elim g1
theorem pms_setLc (i : Nat) {y : Str} {py spos : Pos} {elt tg iter : Expr} {ifs : List Expr} {scope : Scope} {pos : Pos} {fi : M (List PyData)} {is : List Nat} {g : GM} {ft : M Bool} {fe : M PyData} (own : List (Str × Nat)) (hi : PMI X F tg iter fi) (ok : BlkOk X.N X.env.scope scope own) (hN : X.N.Nodup)
    (hg : Blk X scope fun Y => PMG Y F.nox tg is g) (ht : Blk X scope fun Y => PMTs Y F.nox ifs ft) (he : Blk X scope fun Y => PM Y F.nox elt fe)
    (hy : X.N[i]? = some y := by rfl) (hyl : X.env.scope.names.lookup y = some .local := by rfl)
    (hsw : swapsWith (.ListComp elt [⟨tg, iter, ifs, 0⟩] scope pos) (some (.Name y py)) spos.line X.env = pure true := by exact sw_true rfl rfl rfl (by decide +kernel))
    (his : ∀ i ∈ is, i ∈ own.map (·.2) := by decide) (hl : F.ls ∉ own.map (·.2) ∨ F.lent = none := by first | exact Or.inr rfl | exact Or.inl (nm_ls rfl)) (hli : i ≠ F.ls ∨ F.lent = none := by first | exact Or.inr rfl | exact Or.inl (ne_ls rfl)) (hc : X.calm = true := by rfl) (hs : ∀ x, foldedSetIterable iter X.env x = pure x := by intro _; rfl) :
    PMS X F (.Assign [.Name y py] (.ListComp elt [⟨tg, iter, ifs, 0⟩] scope pos) spos) (asgO (lcM (own.map (·.2)) fi g ft fe) (setS i)) :=
  PS.imp (ps_setLc (g := tGM X.kw F.nox is g) (tt := tMT X.kw F.nox ft) (te := tM X.kw F.nox fe) hc hN hy hyl hsw hi ok hg ht he hs) fun _ _ _ h => lc_of his hl (asg_of hli h)
end
end DL
set_option Elab.async false
set_option linter.all false
set_option maxRecDepth 100000
set_option maxHeartbeats 1000000
namespace DL
open PySem PySem.Spec PyProof.Rows L2
variable [TabCtx]
def lcLoop2 (vs vs1 : List Nat) (g : GM) (t : M Bool) (fi1 : M (List PyData)) (g1 : GM) (t1 : M Bool) (e : M PyData) : List PyData → Rho → List PyData → R (List PyData × Rho)
  | [], ρ, acc => .ok (acc, ρ)
  | d :: ds, ρ, acc => match g d (wipeR ρ vs) with
    | .ok ρ1 => (match t ρ1 with
      | .ok (true, ρ2) => (match fi1 ρ2 with
        | .ok (ds1, ρ3) => (match lcLoop vs1 g1 t1 e ds1 ρ3 acc with
          | .ok (acc', ρ4) => lcLoop2 vs vs1 g t fi1 g1 t1 e ds ρ4 acc'
          | _ => .bad)
        | _ => .bad)
      | .ok (false, ρ2) => lcLoop2 vs vs1 g t fi1 g1 t1 e ds ρ2 acc
      | _ => .bad)
    | _ => .bad
def lcM2 (vs vs1 : List Nat) (a : M (List PyData)) (g : GM) (t : M Bool) (fi1 : M (List PyData)) (g1 : GM) (t1 : M Bool) (e : M PyData) : M PyData := M.bind a fun ds ρ => if vs.any (fun i => isOw ρ[i]?) = true then .bad else (match lcLoop2 vs vs1 g t fi1 g1 t1 e ds ρ [] with
  | .ok (acc, ρ') => .ok (.list acc, resR ρ ρ' vs)
  | _ => .bad)
theorem wipe_sub (σ : St) {vs ws : List Nat} (h : ∀ i ∈ ws, i ∈ vs) : L2.wipe (L2.wipe σ ws) vs = L2.wipe σ vs := by
  apply List.ext_getElem?
  intro i
  by_cases hi : i ∈ vs
  · by_cases hl : i < σ.length
    · rw [wipe_in hi (by rw [wipe_length]; exact hl), wipe_in hi hl]
    · rw [List.getElem?_eq_none (by simp only [wipe_length]; omega), List.getElem?_eq_none (by simp only [wipe_length]; omega)]
  · rw [wipe_outL hi, wipe_outL hi, wipe_outL fun z => hi (h i z)]
theorem wipeR_in {ρ : Rho} {i : Nat} : ∀ {vs : List Nat}, i ∈ vs → i < ρ.length → (wipeR ρ vs)[i]? = some .no
  | v :: vs, h, hl => by
    unfold wipeR
    by_cases e : v = i
    · subst e; exact List.getElem?_set_self (by rw [wipeR_len]; exact hl)
    · rw [List.getElem?_set_ne e]
      rcases List.mem_cons.mp h with z | z
      · exact absurd z.symm e
      · exact wipeR_in z hl
theorem wipeR_sub (ρ : Rho) {vs ws : List Nat} (h : ∀ i ∈ ws, i ∈ vs) : wipeR (wipeR ρ ws) vs = wipeR ρ vs := by
  apply List.ext_getElem?
  intro i
  by_cases hi : i ∈ vs
  · by_cases hl : i < ρ.length
    · rw [wipeR_in hi (by rw [wipeR_len]; exact hl), wipeR_in hi hl]
    · rw [List.getElem?_eq_none (by simp only [wipeR_len]; omega), List.getElem?_eq_none (by simp only [wipeR_len]; omega)]
  · rw [wipeR_out hi, wipeR_out hi, wipeR_out fun z => hi (h i z)]
section
variable {X : Cx} {F : Fr}
theorem lc2_of {K : KW} {vs vs1 is is1 : List Nat} {fi fi1 : M (List PyData)} {g g1 : GM} {ft ft1 : M Bool} {fe : M PyData} (his : ∀ i ∈ is, i ∈ vs) (his1 : ∀ i ∈ is1, i ∈ vs1) (hv1 : ∀ i ∈ vs1, i ∈ vs) (hl : F.ls ∉ vs ∨ F.lent = none) {σ : St} {H : Hp} {Q : VK} (h : tM K F (lcM2 vs vs1 fi g ft fi1 g1 ft1 fe) σ H Q) :
    tLc2 (tI K F fi) (tGM K F.nox is g) (tMT K F.nox ft) (tI K F.nox fi1) (tGM K F.nox is1 g1) (tMT K F.nox ft1) (tM K F.nox fe) vs vs1 σ H Q := by
  obtain ⟨V, ρ, E, g0⟩ := h
  refine ⟨V, ρ, E, Goal.bind g0 fun J ds H1 V1 ρ1 st1 it g1' => fun D hD => ?_⟩
  obtain ⟨acc, ρ', hL, hv, q⟩ := lcM_run g1'
  have hl1 : F.ls ∉ vs1 ∨ F.lent = none := hl.imp (fun h z => h (hv1 _ z)) id
  have LD : ∀ ds' ρ acc, lcLoop2 vs vs1 g ft fi1 g1 ft1 fe (ds' : List PyData) ρ acc = lcLoop2 vs vs1 g ft fi1 g1 ft1 fe ds' ρ acc := fun _ _ _ => rfl
  refine ⟨fun i m H' => m = ds.length - i ∧ i ≤ ds.length ∧ ∃ V' ρc ys accd, LI K F vs σ ρ1 H1 V1 D (L2.wipe σ vs) (wipeR ρc vs) H' V' ys accd ∧ lcLoop2 vs vs1 g ft fi1 g1 ft1 fe (ds.drop i) ρc accd = .ok (acc, ρ'),
    ⟨ds.length, rfl, Nat.zero_le _, V1, ρ1, [], [], (LI.start st1.env hD).wipe vs hl, hL⟩, ?_⟩
  rintro i m H' ⟨rfl, hle, V', ρc, ys, accd, I, hE⟩
  obtain ⟨i1, i2⟩ := it i H' V' I.sv I.env.sub
  by_cases hlt : i < ds.length
  · obtain ⟨go, yl⟩ := i1 _ (List.getElem?_eq_getElem hlt)
    rw [List.drop_eq_getElem_cons hlt] at hE
    refine .inr ⟨go, fun H2 => ∃ V' ρc ys accd, LI K F vs σ ρ1 H1 V1 D (L2.wipe σ vs) (wipeR ρc vs) H2 V' ys accd ∧ lcLoop2 vs vs1 g ft fi1 g1 ft1 fe (ds.drop (i + 1)) ρc accd = .ok (acc, ρ'), fun H2 h => ⟨ds.length - (i + 1), by omega, rfl, hlt, h⟩, fun x H2 y => ?_⟩
    obtain ⟨V2, x2, r2⟩ := yl x H2 y
    have I2 := I.ext x2
    refine ⟨V2, wipeR ρc vs, ds[i], I2.env.nox, r2, ?_⟩
    unfold lcLoop2 at hE
    cases eg : g ds[i] (wipeR ρc vs) with
    | exc c => rw [eg] at hE; cases hE
    | bad => rw [eg] at hE; cases hE
    | ok ρ3 =>
      rw [eg] at hE
      intro σ3 H3 V3 E3 x3 w3 o3 p3
      have ew : L2.wipe σ3 vs = L2.wipe σ vs := (w3 vs his).trans (wipe_wipe σ vs)
      have I3 := I2.tgt E3.unnox x3 o3 p3 his
      refine ⟨ew, V3, ρ3, E3, ?_⟩
      have hE : (match ft ρ3 with
        | .ok (true, ρ2) => (match fi1 ρ2 with
          | .ok (ds1, ρ3) => (match lcLoop vs1 g1 ft1 fe ds1 ρ3 accd with
            | .ok (acc', ρ4) => lcLoop2 vs vs1 g ft fi1 g1 ft1 fe (ds.drop (i + 1)) ρ4 acc'
            | _ => .bad)
          | _ => .bad)
        | .ok (false, ρ2) => lcLoop2 vs vs1 g ft fi1 g1 ft1 fe (ds.drop (i + 1)) ρ2 accd
        | _ => .bad) = .ok (acc, ρ') := hE
      show Goal K F.nox σ3 ρ3 H3 V3 (fun _ (b : Bool) a => b = a) (ft ρ3) _
      cases et : ft ρ3 with
      | exc c => rw [et] at hE; cases hE
      | bad => rw [et] at hE; cases hE
      | ok pt =>
        obtain ⟨bt, ρ4⟩ := pt
        rw [et] at hE
        intro b' H4 V4 st4 eb
        subst eb
        have I4 := I3.stp st4.unnox
        cases b' with
        | false =>
          show if false = true then _ else _
          rw [if_neg Bool.false_ne_true]
          have I5 := I4.wipe vs hl
          rw [ew] at I5
          exact ⟨V4, ρ4, ys, accd, I5, hE⟩
        | true =>
          rw [if_pos rfl]
          refine ⟨V4, ρ4, st4.env, ?_⟩
          have hE : (match fi1 ρ4 with
            | .ok (ds1, ρ3) => (match lcLoop vs1 g1 ft1 fe ds1 ρ3 accd with
              | .ok (acc', ρ4) => lcLoop2 vs vs1 g ft fi1 g1 ft1 fe (ds.drop (i + 1)) ρ4 acc'
              | _ => .bad)
            | _ => .bad) = .ok (acc, ρ') := hE
          cases ei : fi1 ρ4 with
          | exc c => rw [ei] at hE; cases hE
          | bad => rw [ei] at hE; cases hE
          | ok pi =>
            obtain ⟨ds1, ρ5⟩ := pi
            rw [ei] at hE
            have hE : (match lcLoop vs1 g1 ft1 fe ds1 ρ5 accd with
              | .ok (acc', ρ4) => lcLoop2 vs vs1 g ft fi1 g1 ft1 fe (ds.drop (i + 1)) ρ4 acc'
              | _ => .bad) = .ok (acc, ρ') := hE
            intro J1 H5 V5 st5 it1
            have I5 := I4.stp st5.unnox
            cases el : lcLoop vs1 g1 ft1 fe ds1 ρ5 accd with
            | exc c => rw [el] at hE; cases hE
            | bad => rw [el] at hE; cases hE
            | ok pl =>
              obtain ⟨acc', ρ6⟩ := pl
              rw [el] at hE
              have hE : lcLoop2 vs vs1 g ft fi1 g1 ft1 fe (ds.drop (i + 1)) ρ6 acc' = .ok (acc, ρ') := hE
              refine ⟨fun j k H' => k = ds1.length - j ∧ j ≤ ds1.length ∧ ∃ V' ρc ys accd, LI K F vs σ ρ1 H1 V1 D (L2.wipe σ3 vs1) (wipeR ρc vs1) H' V' ys accd ∧ Same V5 V' ∧ lcLoop vs1 g1 ft1 fe (ds1.drop j) ρc accd = .ok (acc', ρ6),
                ⟨ds1.length, rfl, Nat.zero_le _, V5, ρ5, ys, accd, I5.wipe vs1 hl1, Same.refl _, el⟩, ?_⟩
              rintro j k Hj ⟨rfl, hlj, Vj, ρj, yj, aj, Ij, svj, ej⟩
              obtain ⟨j1, j2⟩ := it1 j Hj Vj svj Ij.env.sub
              by_cases hltj : j < ds1.length
              · obtain ⟨go1, yl1⟩ := j1 _ (List.getElem?_eq_getElem hltj)
                rw [List.drop_eq_getElem_cons hltj] at ej
                refine .inr ⟨go1, fun H2 => ∃ V' ρc ys accd, LI K F vs σ ρ1 H1 V1 D (L2.wipe σ3 vs1) (wipeR ρc vs1) H2 V' ys accd ∧ Same V5 V' ∧ lcLoop vs1 g1 ft1 fe (ds1.drop (j + 1)) ρc accd = .ok (acc', ρ6), fun H2 h => ⟨ds1.length - (j + 1), by omega, rfl, hltj, h⟩, fun xj H6 yyj => ?_⟩
                obtain ⟨V6, x6, r6⟩ := yl1 xj H6 yyj
                have I6 := Ij.ext x6
                refine ⟨V6, wipeR ρj vs1, ds1[j], I6.env.nox, r6, ?_⟩
                unfold lcLoop at ej
                cases eg1 : g1 ds1[j] (wipeR ρj vs1) with
                | exc c => rw [eg1] at ej; cases ej
                | bad => rw [eg1] at ej; cases ej
                | ok ρ7 =>
                  rw [eg1] at ej
                  intro σ7 H7 V7 E7 x7 w7 o7 p7
                  have ew7 : L2.wipe σ7 vs1 = L2.wipe σ3 vs1 := (w7 vs1 his1).trans (wipe_wipe σ3 vs1)
                  have I7 := I6.tgt E7.unnox x7 o7 p7 (fun i hi => hv1 i (his1 i hi))
                  have sv7 : Same V5 V7 := (svj.trans x6.v).trans x7.v
                  refine ⟨ew7, V7, ρ7, E7, ?_⟩
                  have ej : (match ft1 ρ7 with
                    | .ok (true, ρ2) => (match fe ρ2 with
                      | .ok (y, ρ3) => if aj.length < LIM then lcLoop vs1 g1 ft1 fe (ds1.drop (j + 1)) ρ3 (aj ++ [y]) else .bad
                      | _ => .bad)
                    | .ok (false, ρ2) => lcLoop vs1 g1 ft1 fe (ds1.drop (j + 1)) ρ2 aj
                    | _ => .bad) = .ok (acc', ρ6) := ej
                  show Goal K F.nox σ7 ρ7 H7 V7 (fun _ (b : Bool) a => b = a) (ft1 ρ7) _
                  cases et1 : ft1 ρ7 with
                  | exc c => rw [et1] at ej; cases ej
                  | bad => rw [et1] at ej; cases ej
                  | ok pt1 =>
                    obtain ⟨bt1, ρ8⟩ := pt1
                    rw [et1] at ej
                    intro b1 H8 V8 st8 eb1
                    subst eb1
                    have I8 := I7.stp st8.unnox
                    cases b1 with
                    | false =>
                      show if false = true then _ else _
                      rw [if_neg Bool.false_ne_true]
                      have I9 := I8.wipe vs1 hl1
                      rw [ew7] at I9
                      exact ⟨V8, ρ8, yj, aj, I9, sv7.trans st8.v, ej⟩
                    | true =>
                      rw [if_pos rfl]
                      refine ⟨V8, ρ8, st8.env, ?_⟩
                      have ej : (match fe ρ8 with
                        | .ok (y, ρ3) => if aj.length < LIM then lcLoop vs1 g1 ft1 fe (ds1.drop (j + 1)) ρ3 (aj ++ [y]) else .bad
                        | _ => .bad) = .ok (acc', ρ6) := ej
                      cases ee : fe ρ8 with
                      | exc c => rw [ee] at ej; cases ej
                      | bad => rw [ee] at ej; cases ej
                      | ok pe =>
                        obtain ⟨yd, ρ9⟩ := pe
                        rw [ee] at ej
                        have ej : (if aj.length < LIM then lcLoop vs1 g1 ft1 fe (ds1.drop (j + 1)) ρ9 (aj ++ [yd]) else .bad) = .ok (acc', ρ6) := ej
                        intro yv H9 V9 st9 ry
                        by_cases hlm : aj.length < LIM
                        · rw [if_pos hlm] at ej
                          have I9 := I8.stp st9.unnox
                          have I10 := (I9.app ry).wipe vs1 hl1
                          rw [ew7] at I10
                          exact ⟨yj, I9.hD, by rw [I9.rl.length]; exact Nat.lt_trans hlm lim_lt, V9, ρ9, _, _, I10, (sv7.trans st8.v).trans st9.v, ej⟩
                        · rw [if_neg hlm] at ej; cases ej
              · have ejj : j = ds1.length := by omega
                subst ejj
                rw [List.drop_length] at ej
                have ej : R.ok (aj, ρj) = R.ok (acc', ρ6) := ej
                injection ej with ej
                injection ej with ea er
                subst ea er
                have I6 := Ij.wipe vs hl
                rw [wipe_sub σ3 hv1, wipeR_sub ρj hv1, ew] at I6
                exact .inl ⟨j2 rfl, Vj, ρj, yj, aj, I6, hE⟩
  · have ei : i = ds.length := by omega
    subst ei
    rw [List.drop_length] at hE
    have hE : R.ok (accd, ρc) = R.ok (acc, ρ') := hE
    injection hE with hE
    injection hE with ea er
    subst ea er
    obtain ⟨s1, s2⟩ := LI.done st1.env I hv
    exact .inl ⟨i2 rfl, q _ _ _ s1 s2⟩
theorem pm_lc2 {elt tg iter tg1 iter1 : Expr} {ifs ifs1 : List Expr} {scope : Scope} {pos : Pos} {fi fi1 : M (List PyData)} {is is1 : List Nat} {g g1 : GM} {ft ft1 : M Bool} {fe : M PyData} (own : List (Str × Nat)) (vs1 : List Nat) (hi : PMI X F tg iter fi) (ok : BlkOk X.N X.env.scope scope own) (hN : X.N.Nodup)
    (hg : Blk X scope fun Y => PMG Y F.nox tg is g) (ht : Blk X scope fun Y => PMTs Y F.nox ifs ft) (hi1 : Blk X scope fun Y => PMI Y F.nox tg1 iter1 fi1) (hg1 : Blk X scope fun Y => PMG Y F.nox tg1 is1 g1) (ht1 : Blk X scope fun Y => PMTs Y F.nox ifs1 ft1) (he : Blk X scope fun Y => PM Y F.nox elt fe)
    (his : ∀ i ∈ is, i ∈ own.map (·.2) := by decide) (his1 : ∀ i ∈ is1, i ∈ vs1 := by decide) (hv1 : ∀ i ∈ vs1, i ∈ own.map (·.2) := by decide) (hl : F.ls ∉ own.map (·.2) ∨ F.lent = none := by first | exact Or.inr rfl | exact Or.inl (nm_ls rfl)) (hc : X.calm = true := by rfl) (hs : ∀ x, foldedSetIterable iter X.env x = pure x := by intro _; rfl) (hs1 : ∀ env x, foldedSetIterable iter1 env x = pure x := by intro _ _; rfl) :
    PM X F (.ListComp elt [⟨tg, iter, ifs, 0⟩, ⟨tg1, iter1, ifs1, 0⟩] scope pos) (lcM2 (own.map (·.2)) vs1 fi g ft fi1 g1 ft1 fe) :=
  PE.imp (pe_lc2 (wi1 := tI X.kw F.nox fi1) (g := tGM X.kw F.nox is g) (tt := tMT X.kw F.nox ft) (g1 := tGM X.kw F.nox is1 g1) (tt1 := tMT X.kw F.nox ft1) (te := tM X.kw F.nox fe) hc hN hi ok hv1 hg ht hi1 hg1 ht1 he hs hs1) fun _ _ _ h => lc2_of his his1 hv1 hl h
end
end DL
set_option Elab.async false
set_option linter.all false
set_option maxRecDepth 100000
set_option maxHeartbeats 1000000
namespace DL
open PySem PySem.Spec PyProof.Rows L2
variable [TabCtx]
section
variable {K : KW} {F : Fr} {σ : St} {ρ ρ1 : Rho} {H V H1 V1 : Hp}
theorem getElem_set_some {α : Type} {l : List α} {i j : Nat} {x y : α} (h : (l.set i x)[j]? = some y) : (i = j ∧ x = y ∧ i < l.length) ∨ (i ≠ j ∧ l[j]? = some y) := by
  by_cases e : i = j
  · subst e
    by_cases hi : i < l.length
    · rw [List.getElem?_set_self hi] at h
      exact .inl ⟨rfl, Option.some.inj h, hi⟩
    · rw [List.getElem?_eq_none (by simpa using hi)] at h; cases h
  · rw [List.getElem?_set_ne e] at h
    exact .inr ⟨e, h⟩
/-- a slot is given a new own thing -/
theorem EnvR.setOw (E : EnvR K F H V σ ρ) {i : Nat} {p : Addr} {o : HO} {d : PyData} (hp : H p = none) (r : OwnAt K V (upd H p o) p d) (hl : i ≠ F.ls ∨ F.lent = none) : EnvR K F (upd H p o) V (σ.set i (some (.ref p))) (ρ.set i (.ow d)) := by
  have hlen := E.len
  have E1 := E.grow (Ext.hid (o := o) E.sub hp)
  have np : ∀ {j : Nat} {e : PyData} {a : Addr}, ρ[j]? = some (.ow e) → σ[j]? = some (some (.ref a)) → a ≠ p := fun {j e a} h1 h2 z => by
    obtain ⟨b, q1, q2, q3, q4⟩ := E.ow j e h1
    rw [h2] at q1
    cases q1
    obtain ⟨o, q5, _⟩ := q4.there
    rw [z, hp] at q5
    cases q5
  refine ⟨by simp [hlen], E1.ext, fun j e h => ?_, fun j e h => ?_, fun j k a e e' h1 h2 h3 h4 => ?_, fun a ha => ?_, E.tab, E.ob.set fun _ z => nomatch z⟩
  · rcases getElem_set_some h with ⟨_, q, _⟩ | ⟨n, q⟩
    · cases q
    · rw [List.getElem?_set_ne n]; exact E1.sh j e q
  · rcases getElem_set_some h with ⟨rfl, q, hi⟩ | ⟨n, q⟩
    · cases q
      exact ⟨p, List.getElem?_set_self (by omega), E.sub.free hp, E.ext.free hp, r⟩
    · rw [List.getElem?_set_ne n]; exact E1.ow j e q
  · rcases getElem_set_some h1 with ⟨rfl, _, _⟩ | ⟨n1, q1⟩
    · rcases getElem_set_some h2 with ⟨rfl, _, _⟩ | ⟨n2, q2⟩
      · rfl
      · rcases getElem_set_some h3 with ⟨_, q3, _⟩ | ⟨n3, _⟩
        · rcases getElem_set_some h4 with ⟨z, _, _⟩ | ⟨_, q4⟩
          · exact absurd z n2
          · exact absurd (L2.V.ref.inj (Option.some.inj q3)).symm (np q2 q4)
        · exact absurd rfl n3
    · rcases getElem_set_some h2 with ⟨rfl, _, _⟩ | ⟨n2, q2⟩
      · rcases getElem_set_some h4 with ⟨_, q4, _⟩ | ⟨n3, _⟩
        · rcases getElem_set_some h3 with ⟨z, _, _⟩ | ⟨_, q3⟩
          · exact absurd z n1
          · exact absurd (L2.V.ref.inj (Option.some.inj q4)).symm (np q1 q3)
        · exact absurd rfl n3
      · rw [List.getElem?_set_ne n1] at h3
        rw [List.getElem?_set_ne n2] at h4
        exact E.dis j k a e e' q1 q2 h3 h4
  · rcases hl with hl | hl
    · rw [List.getElem?_set_ne hl]; exact E.lent a ha
    · rw [hl] at ha; cases ha
/-- an own thing is changed -/
theorem EnvR.updOw (E : EnvR K F H V σ ρ) {i : Nat} {p : Addr} {o : HO} {d d' : PyData} (h0 : ρ[i]? = some (.ow d)) (h1 : σ[i]? = some (some (.ref p))) (r : OwnAt K V (upd H p o) p d') : EnvR K F (upd H p o) V σ (ρ.set i (.ow d')) := by
  obtain ⟨b, q1, q2, q3, q4⟩ := E.ow i d h0
  rw [h1] at q1
  cases q1
  refine ⟨by simp [E.len], ⟨fun b x e n => ?_, E.ext.v, fun b x e => ?_, E.ext.f, fun b h => ?_, fun t => tabs_upd q4.plain (E.ext.t t)⟩, fun j e h => ?_, fun j e h => ?_, fun j k a e e' h1' h2 h3 h4 => ?_, E.lent, E.tab, E.ob.setR fun _ z => nomatch z⟩
  · rw [upd_ne (fun z => by rw [z, q3] at e; cases e)]; exact E.ext.h b x e n
  · rw [upd_ne (fun z => by rw [z, q2] at e; cases e)]; exact E.ext.s b x e
  · rw [upd_ne (fun z => h (by rw [z]; exact q3))]; exact E.ext.th b h
  · rcases getElem_set_some h with ⟨_, q, _⟩ | ⟨n, q⟩
    · cases q
    · exact E.sh j e q
  · rcases getElem_set_some h with ⟨rfl, q, hi⟩ | ⟨n, q⟩
    · cases q
      exact ⟨p, h1, q2, q3, r⟩
    · obtain ⟨a, w1, w2, w3, w4⟩ := E.ow j e q
      refine ⟨a, w1, w2, w3, w4.mono (Same.refl _) fun o' e' _ => ?_⟩
      rw [upd_ne (fun z => n (by rw [z] at w1; exact E.dis i j p d e h0 q h1 w1))]
      exact e'
  · have f : ∀ {j : Nat} {e : PyData}, (ρ.set i (.ow d'))[j]? = some (.ow e) → ∃ e, ρ[j]? = some (.ow e) := fun {j e} h => by
      rcases getElem_set_some h with ⟨rfl, q, hi⟩ | ⟨n, q⟩
      · exact ⟨d, h0⟩
      · exact ⟨e, q⟩
    obtain ⟨e1, w1⟩ := f h1'
    obtain ⟨e2, w2⟩ := f h2
    exact E.dis j k a e1 e2 w1 w2 h3 h4
end
def ownO (i : Nat) (a : M (List PyData)) : SM := exO a fun ds ρ => if ds.length ≤ LIM then .nx (ρ.set i (.ow (.list ds))) else .bad
def appO (i : Nat) (a : M PyData) : SM := fun ρ => match ρ[i]? with
  | some (.ow (.list _)) => exO a (fun d ρ => match ρ[i]? with
    | some (.ow (.list ds)) => if ds.length < LIM then .nx (ρ.set i (.ow (.list (ds ++ [d])))) else .bad
    | _ => .bad) ρ
  | _ => .bad
/-- o[k] of an own list -/
def ixI (i : Nat) (a : M PyData) : M PyData := M.bind a fun k ρ => match ρ[i]?, k with
  | some (.ow (.list ds)), .int j => (match atD ds j with
    | some z => .ok (z, ρ)
    | none => .bad)
  | _, _ => .bad
def ixO (i : Nat) (a : M PyData) : M PyData := fun ρ => if isOwn1 ρ[i]? = true then ixI i a ρ else .bad
/-- o[k] = e of an own list -/
def sixI (i : Nat) (d : PyData) (k : M PyData) : SM := exO k fun j ρ => match ρ[i]?, j with
  | some (.ow (.list ds)), .int j => (match ixN ds.length j with
    | some n => .nx (ρ.set i (.ow (.list (ds.set n d))))
    | none => .bad)
  | _, _ => .bad
def sixO (i : Nat) (k a : M PyData) : SM := exO a fun d ρ => if isOwn1 ρ[i]? = true then sixI i d k ρ else .bad
section
variable {X : Cx} {F : Fr} {e k : Expr} {es : List Expr} {fa fk : M PyData} {fs : M (List PyData)} {pos : Pos}
theorem pms_own (i : Nat) {x : Str} {pos' posl : Pos} (ha : PMA X F es fs) (hN : X.N.Nodup) (hi : X.N[i]? = some x := by rfl) (hx : Loc X.env.scope x := by first | exact Or.inl rfl | exact Or.inr rfl) (hl : i ≠ F.ls ∨ F.lent = none := by first | exact Or.inr rfl | exact Or.inl (ne_ls rfl))
    (hs : swapsWith (.List es posl) (some (.Name x pos')) pos.line X.env = pure false := by rfl) (hf : X.fn x = true ∨ X.env.scope.names.lookup x = some .local := by first | exact .inl rfl | exact .inr rfl | assumption) :
    PMS X F (.Assign [.Name x pos'] (.List es posl) pos) (ownO i fs) := by
  refine PS.imp (ps_set hN hi hx (pe_lst ha) hs hf) fun D σ H ⟨V, ρ, E, g⟩ => ⟨V, ρ, E, Goal.ex g fun xs ds H1 V1 ρ1 st1 r1 g1 => ?_⟩
  by_cases hlm : ds.length ≤ LIM
  · have g1 : GoalS X.kw F V1 (if ds.length ≤ LIM then .nx (ρ1.set i (.ow (.list ds))) else .bad) D := g1
    rw [if_pos hlm] at g1
    refine ⟨by rw [r1.length]; exact Nat.le_trans hlm lim_le, fun p hp => ?_⟩
    exact g1 _ _ _ (st1.env.setOw hp ⟨xs, upd_same, r1⟩ hl) (Same.refl _)
  · have g1 : GoalS X.kw F V1 (if ds.length ≤ LIM then .nx (ρ1.set i (.ow (.list ds))) else .bad) D := g1
    rw [if_neg hlm] at g1
    exact False.elim g1
theorem pms_app (i : Nat) {x : Str} {px apos cpos : Pos} (ha : PM X F e fa) (hN : X.N[i]? = some x := by rfl) (hv : Vis X.env.scope x := by first | exact Or.inl rfl | exact Or.inr (Or.inl rfl) | exact Or.inr (Or.inr rfl)) (hd : (x == ("__debug__" : Str)) = false := by decide) (hcd : (x == ("__classdict__" : Str)) = false := by decide)
    (hbase : attributeBase (.Name x px) "append" X.env (eval (.Name x px) X.env) = eval (.Name x px) X.env := by rfl)
    (hfew : ((backTo cpos (starEach [e] X.env)).all (fun x => !x.1) && (backToKw cpos (keywordEach [] X.env)).all (fun x => x.1.isSome) && decide ([e].length + ([] : List Keyword).length + (if ([] : List Keyword).isEmpty then 0 else 1) < 30)) = true := by rfl)
    (hline : (apos.endLine == cpos.line) = true := by rfl) (hs : starEach [e] X.env = (false, eval e X.env) :: starEach [] X.env := by rfl) (hplain : (backTo cpos (starEach [] X.env)).any (·.1) = false := by rfl)
    (hsw : swapsWith (.Call (.Attribute (.Name x px) "append" apos) [e] [] cpos) none pos.line X.env = pure false := by rfl) :
    PMS X F (.Expr (.Call (.Attribute (.Name x px) "append" apos) [e] [] cpos) pos) (appO i fa) := by
  refine PS.imp (ps_expr (pe_bm PySem.F.plainAttrs_list PySem.F.slot_list_append PySem.F.type_list_append mt_append (pe_var hN hv hd hcd) (pa_cons ha pa_nil hs) hbase hfew hline hs hplain) hsw) fun D σ H ⟨V, ρ, E, g⟩ => ?_
  unfold appO at g
  cases eo : ρ[i]? with
  | none => rw [eo] at g; exact False.elim g
  | some s =>
    rw [eo] at g
    cases s with
    | no => exact False.elim g
    | ob _ => exact False.elim g
    | sh d => exact False.elim g
    | ow d =>
      cases d with
      | list ds0 =>
        obtain ⟨a, h1, h2, h3, xs0, h4, h5⟩ := E.ow i _ eo
        refine ⟨.ref a, h1, .inl ⟨rfl, xs0, .inl (.inl h4)⟩, V, ρ, E, Goal.ex g fun v d H1 V1 ρ1 st1 r1 g1 => ?_⟩
        cases eo1 : ρ1[i]? with
        | none => rw [eo1] at g1; exact False.elim g1
        | some s1 =>
          rw [eo1] at g1
          cases s1 with
          | no => exact False.elim g1
          | ob _ => exact False.elim g1
          | sh d => exact False.elim g1
          | ow d1 =>
            cases d1 with
            | list ds =>
              have g1 : GoalS X.kw F V1 (if ds.length < LIM then .nx (ρ1.set i (.ow (.list (ds ++ [d])))) else .bad) D := g1
              obtain ⟨a', q1, q2, q3, xs, q4, q5⟩ := st1.env.ow i _ eo1
              have ea : a' = a := by rw [h1] at q1; exact (L2.V.ref.inj (Option.some.inj (Option.some.inj q1))).symm
              subst ea
              by_cases hlm : ds.length < LIM
              · rw [if_pos hlm] at g1
                refine ⟨a', xs, v, rfl, rfl, q4, by rw [q5.length]; exact Nat.lt_trans hlm lim_lt, ?_⟩
                exact g1 _ _ _ (st1.env.updOw eo1 q1 ⟨_, upd_same, q5.append (.cons r1 .nil)⟩) (Same.refl _)
              · rw [if_neg hlm] at g1
                exact False.elim g1
            | _ => exact False.elim g1
      | _ => exact False.elim g
theorem pm_ixO (i : Nat) {x : Str} {px : Pos} (hk : PM X F k fk) (hN : X.N[i]? = some x := by rfl) (hv : Vis X.env.scope x := by first | exact Or.inl rfl | exact Or.inr (Or.inl rfl) | exact Or.inr (Or.inr rfl)) (hd : (x == ("__debug__" : Str)) = false := by decide) (hcd : (x == ("__classdict__" : Str)) = false := by decide)
    (hs : PlainIx k := by exact fun _ _ => rfl) : PM X F (.Subscript (.Name x px) k pos) (ixO i fk) := by
  refine PE.imp (pe_ix ix_list (pe_var hN hv hd hcd) hk hs) fun σ H Q ⟨V, ρ, E, g⟩ => ?_
  have g : Goal X.kw F σ ρ H V (Rep X.kw) (if isOwn1 ρ[i]? = true then ixI i fk ρ else .bad) Q := g
  by_cases hio : isOwn1 ρ[i]? = true
  · rw [if_pos hio] at g
    cases eo : ρ[i]? with
    | none => rw [eo] at hio; cases hio
    | some s =>
      cases s with
      | no => rw [eo] at hio; cases hio
      | ob _ => rw [eo] at hio; cases hio
      | sh d => rw [eo] at hio; cases hio
      | ow d0 =>
        obtain ⟨a, h1, h2, h3, h4⟩ := E.ow i _ eo
        refine ⟨.ref a, h1, V, ρ, E, Goal.bind g fun v d H1 V1 ρ1 st1 r1 g1 => ?_⟩
        cases eo1 : ρ1[i]? with
        | none => rw [eo1] at g1; exact False.elim g1
        | some s1 =>
          rw [eo1] at g1
          cases s1 with
          | no => exact False.elim g1
          | ob _ => exact False.elim g1
          | sh d => exact False.elim g1
          | ow d1 =>
            cases d1 with
            | list ds =>
              cases r1 with
              | int j =>
                have g1 : Goal X.kw F σ ρ1 H1 V1 (Rep X.kw) (match atD ds j with
                  | some z => .ok (z, ρ1)
                  | none => .bad) Q := g1
                obtain ⟨a', q1, q2, q3, xs, q4, q5⟩ := st1.env.ow i _ eo1
                have ea : a' = a := by rw [h1] at q1; exact (L2.V.ref.inj (Option.some.inj (Option.some.inj q1))).symm
                subst ea
                cases ez : atD ds j with
                | none => rw [ez] at g1; exact False.elim g1
                | some z =>
                  rw [ez] at g1
                  obtain ⟨u, w1, w2⟩ := atD_get q5 ez
                  exact ⟨a', xs, j, u, rfl, rfl, .inl (.inl q4), w1, g1 u H1 V1 st1.env.refl w2⟩
              | _ => exact False.elim g1
            | _ => exact False.elim g1
  · rw [if_neg hio] at g
    exact False.elim g
theorem pms_six (i : Nat) {x : Str} {px spos : Pos} (ha : PM X F e fa) (hk : PM X F k fk) (hN : X.N[i]? = some x := by rfl) (hv : Vis X.env.scope x := by first | exact Or.inl rfl | exact Or.inr (Or.inl rfl) | exact Or.inr (Or.inr rfl)) (hd : (x == ("__debug__" : Str)) = false := by decide) (hcd : (x == ("__classdict__" : Str)) = false := by decide)
    (has : ∀ v, assign (.Subscript (.Name x px) k spos) X.env v = (do
      let ov ← holding [v] (eval (.Name x px) X.env)
      let iv ← holding [v, ov] (eval k X.env)
      standAt spos
      holding [v, ov, iv] (setItem ov iv v)
      release [v, ov, iv] []) := by intro _; rfl) (hs : swapsWithSole [.Subscript (.Name x px) k spos] e pos.line X.env = pure false := by rfl) (hw : swappedStores [.Subscript (.Name x px) k spos] e X.env = pure none := by rfl)
    (h1 : (assignEach [.Subscript (.Name x px) k spos] X.env).map (·.2) = [assign (.Subscript (.Name x px) k spos) X.env] := by rfl) :
    PMS X F (.Assign [.Subscript (.Name x px) k spos] e pos) (sixO i fk fa) := by
  refine PS.imp (ps_asg ha (pg_sub (pe_var hN hv hd hcd) hk set_list has) hs hw h1) fun D σ H ⟨V, ρ, E, g⟩ => ⟨V, ρ, E, Goal.ex g fun v d H1 V1 ρ1 st1 r1 g1 => ?_⟩
  have g1 : GoalS X.kw F V1 (if isOwn1 ρ1[i]? = true then sixI i d fk ρ1 else .bad) D := g1
  by_cases hio : isOwn1 ρ1[i]? = true
  · rw [if_pos hio] at g1
    cases eo : ρ1[i]? with
    | none => rw [eo] at hio; cases hio
    | some s =>
      cases s with
      | no => rw [eo] at hio; cases hio
      | ob _ => rw [eo] at hio; cases hio
      | sh d => rw [eo] at hio; cases hio
      | ow d0 =>
        obtain ⟨a, h1, h2, h3, h4⟩ := st1.env.ow i _ eo
        refine ⟨.ref a, h1, V1, ρ1, st1.env, Goal.ex g1 fun j dj H2 V2 ρ2 st2 r2 g2 => ?_⟩
        cases eo1 : ρ2[i]? with
        | none => rw [eo1] at g2; exact False.elim g2
        | some s1 =>
          rw [eo1] at g2
          cases s1 with
          | no => exact False.elim g2
          | ob _ => exact False.elim g2
          | sh d => exact False.elim g2
          | ow d1 =>
            cases d1 with
            | list ds =>
              cases r2 with
              | int j =>
                have g2 : GoalS X.kw F V2 (match ixN ds.length j with
                  | some n => .nx (ρ2.set i (.ow (.list (ds.set n d))))
                  | none => .bad) D := g2
                obtain ⟨a', q1, q2, q3, xs, q4, q5⟩ := st2.env.ow i _ eo1
                have ea : a' = a := by rw [h1] at q1; exact (L2.V.ref.inj (Option.some.inj (Option.some.inj q1))).symm
                subst ea
                cases ez : ixN ds.length j with
                | none => rw [ez] at g2; exact False.elim g2
                | some n =>
                  rw [ez] at g2
                  exact ⟨a', xs, j, n, rfl, rfl, q4, by rw [q5.length]; exact ez, g2 _ _ _ (st2.env.updOw eo1 q1 ⟨_, upd_same, q5.set (r1.mono st2.v) n⟩) (Same.refl _)⟩
              | _ => exact False.elim g2
            | _ => exact False.elim g2
  · rw [if_neg hio] at g1
    exact False.elim g1
end
def hide (H : Hp) (a : Addr) : Hp := fun b => if b = a then none else H b
theorem hide_ne {H : Hp} {a b : Addr} (h : b ≠ a) : hide H a b = H b := by unfold hide; rw [if_neg h]
theorem hide_eq {H : Hp} {a : Addr} : hide H a a = none := by unfold hide; rw [if_pos rfl]
theorem hide_same {H : Hp} {a : Addr} : Same (hide H a) H := fun b o e => by
  by_cases h : b = a
  · rw [h, hide_eq] at e; cases e
  · rw [hide_ne h] at e; exact e
theorem tabs_hide {T : List (Addr × Str)} {H : Hp} {a : Addr} (h : ∀ x, H a = some x → Plain x) (t : LamX.Tabs T H) : LamX.Tabs T (hide H a) := fun q hq => by
  obtain ⟨ps, h1, h2, h3⟩ := t q hq
  refine ⟨ps, ?_, h2, fun pos cv hc => ?_⟩
  · rw [hide_ne (fun z => (h _ (by rw [← z]; exact h1)).t _ rfl)]; exact h1
  · obtain ⟨c, e1, e2⟩ := h3 pos cv hc
    refine ⟨c, e1, ?_⟩
    rw [hide_ne (fun z => (h _ (by rw [← z]; exact e2)).c _ _ rfl)]; exact e2
def start1 (n : Nat) (dd : PyData) (ds : List PyData) : Rho := .ow dd :: (ds.map .sh ++ List.replicate (n - 1 - ds.length) .no)
/-- a def of k parameters besides the lent one, n slots -/
def fnRunL (k n : Nat) (f : SM) (dd : PyData) (ds : List PyData) : R (PyData × PyData) := if ds.length = k then (match f (start1 n dd ds) with
  | .rt d ρ => (match ρ[0]? with
    | some (Sl.ow dd') => .ok (d, dd')
    | _ => .bad)
  | .rf d ρ => (match ρ[0]? with
    | some (Sl.ow dd') => .ok (d, dd')
    | _ => .bad)
  | .nx ρ => (match ρ[0]? with
    | some (Sl.ow dd') => .ok (.none, dd')
    | _ => .bad)
  | .exc c => .exc c
  | _ => .bad) else .bad
def spL (K : KW) (n : Nat) (m : PyData → List PyData → R (PyData × PyData)) : Sp := fun vs H Q E => vs.length = n ∧ ∃ a vs' V dd ds, TabV H V ∧ vs = .ref a :: vs' ∧ Same V H ∧ V a = none ∧ OwnAt K V H a dd ∧ RepL K V vs' ds ∧ match m dd ds with
  | .ok (d, dd') => ∀ v H' V', Ext (hide H a) V H' V' → V' a = none → OwnAt K V' H' a dd' → Rep K V' v d → Q v H'
  | .exc c => ∀ H' V', Ext (hide H a) V H' V' → E (.ref (He.ga K c)) none H'
  | .bad => False
def FnL (P : Program) (w : World) (K : PySem.W.Frag) (mg : Str → Option Value) (base : Heap) (lvl : Nat) (x : Str) (ps : List Str) (m : PyData → List PyData → R (PyData × PyData)) : Prop :=
  ∃ fd, FnOk P w K mg base (L2N.CX P w) lvl (He.ga K x) fd ps (spL ⟨K, w⟩ ps.length m) ∧ Binds K fd ps [] ∧ PySem.W.keepIn K (.ref (He.ga K x)) = true ∧ mg x = some (.ref (He.ga K x)) ∧ ∀ dd ds, m dd ds ≠ .bad → ds.length + 1 = ps.length
abbrev mkL (H V : Hp) (a : Addr) (E : XK) : Fr := ⟨hide H a, V, some a, fun cls _ H' => E cls none H', 0, fun _ => False⟩
section
variable {P : Program} {w : World} {K : PySem.W.Frag} {mg : Str → Option Value} {base : Heap} {x : Str} {params : Arguments} {body : List Stmt} {scope : Scope} {fd : FuncData}
theorem env_lent {V H : Hp} {vs : List L2.V} {ds : List PyData} {a : Addr} {dd : PyData} (r : RepL ⟨K, w⟩ V vs ds) {N : List Str} (hle : vs.length + 1 ≤ N.length) {E : XK} (s : Same V H) (hv : V a = none) (ho : OwnAt ⟨K, w⟩ V H a dd) (ht : TabV H V) : EnvR ⟨K, w⟩ (mkL H V a E) H V (L2.start N (.ref a :: vs)) (start1 N.length dd ds) := by
  have hl := r.length
  have f : ∀ {i : Nat} {t : Sl}, (start1 N.length dd ds)[i]? = some t → (i = 0 ∧ t = .ow dd) ∨ (∃ j d, i = j + 1 ∧ ds[j]? = some d ∧ t = .sh d) ∨ t = .no := fun {i t} h => by
    unfold start1 at h
    cases i with
    | zero => exact .inl ⟨rfl, (Option.some.inj h).symm⟩
    | succ j =>
      rw [List.getElem?_cons_succ] at h
      by_cases hi : j < ds.length
      · rw [List.getElem?_append_left (by simpa using hi), List.getElem?_map] at h
        obtain ⟨d', h1, h2⟩ := Option.map_eq_some_iff.mp h
        exact .inr (.inl ⟨j, d', rfl, h1, h2.symm⟩)
      · rw [List.getElem?_append_right (by simpa using hi), List.getElem?_replicate] at h
        split at h
        · exact .inr (.inr (Option.some.inj h).symm)
        · cases h
  refine ⟨?_, .of hide_same (Same.refl _) s (fun _ h _ => h), fun i d h => ?_, fun i d h => ?_, fun i j b d e h1 h2 _ _ => ?_, fun b h => ?_, ⟨tabs_hide ho.plain ht.1, ht.2⟩, ObE.non fun i o h => by
    rcases f h with ⟨_, z⟩ | ⟨_, _, _, _, z⟩ | z <;> cases z⟩
  · simp only [L2.start, start1, List.length_append, List.length_map, List.length_cons, List.length_replicate, hl]
    omega
  · rcases f h with ⟨_, z⟩ | ⟨j, d', rfl, hj, z⟩ | z
    · cases z
    · cases z
      obtain ⟨v, h3, h4⟩ := r.get j hj
      refine ⟨v, ?_, h4⟩
      unfold L2.start
      have hj' : j < vs.length := (List.getElem?_eq_some_iff.mp h3).1
      rw [List.getElem?_append_left (by simp only [List.length_map, List.length_cons]; omega), List.getElem?_map, List.getElem?_cons_succ, h3]
      rfl
    · cases z
  · rcases f h with ⟨rfl, z⟩ | ⟨j, d', rfl, hj, z⟩ | z
    · cases z
      exact ⟨a, rfl, hv, hide_eq, ho⟩
    · cases z
    · cases z
  · rcases f h1 with ⟨rfl, _⟩ | ⟨j, d', _, _, z⟩ | z
    · rcases f h2 with ⟨rfl, _⟩ | ⟨j, d', _, _, z⟩ | z
      · rfl
      · cases z
      · cases z
    · cases z
    · cases z
  · cases h
    rfl
theorem fn_mkL {N ps : List Str} {k : Nat} {f : SM} (D : FunD K x x params body scope [] [] (He.ga K x) fd) (hx : mg x = some (.ref (He.ga K x))) (S : FnScope N ps scope)
    (hbd : ∀ (kV doc pm : Value) (an : Option Addr) (cdv ct : Value) (us : List Value), us.length = ps.length → bindArgs (PySem.W.fnOf x x params body scope .none kV doc pm an cdv ct) ⟨us, []⟩ = pure (ps.zip us))
    (hps : ps.length ≤ N.length) (hp0 : 0 < ps.length)
    (hb : ∀ (cdv : Value) (A : Around) (outer : List Env) (s : Shared) (H V : Hp) (a : Addr) (E : XK), Room k (A.deeper (envOfC x scope s.heap.objs.size (He.ga K x) cdv)) → PMSs (cxF P w K mg base N x scope cdv A outer s H E) (mkL H V a E) body f) :
    FnL P w K mg base (k + 1) x ps (fnRunL (ps.length - 1) N.length f) := by
  refine ⟨fd, D.ok (CX := L2N.CX P w) S (fun vs H Q E h => h.1) fun cdv A outer s H vs Q E hr h => ?_, D.bindsN hbd, D.kp, hx, fun dd ds h => ?_⟩
  · obtain ⟨hl, a, vs', V, dd, ds, ht, rfl, sv, va, ho, r, g⟩ := h
    rw [List.length_cons] at hl
    refine ⟨_, hb cdv A outer s H V a E hr, V, start1 N.length dd ds, env_lent r (by omega) sv va ho ht, ?_⟩
    unfold fnRunL at g
    rw [if_pos (by rw [← r.length]; omega)] at g
    show GoalS ⟨K, w⟩ (mkL H V a E) V (f (start1 N.length dd ds)) _
    have fin : ∀ {v : L2.V} {d : PyData} {ρ' : Rho} {σ' : St} {H' V' : Hp}, EnvR ⟨K, w⟩ (mkL H V a E) H' V' σ' ρ' → Rep ⟨K, w⟩ V' v d → (match (match ρ'[0]? with
        | some (.ow dd') => (.ok (d, dd') : R (PyData × PyData))
        | _ => .bad) with
      | .ok (d, dd') => ∀ v H' V', Ext (hide H a) V H' V' → V' a = none → OwnAt ⟨K, w⟩ V' H' a dd' → Rep ⟨K, w⟩ V' v d → Q v H'
      | .exc c => ∀ H' V', Ext (hide H a) V H' V' → E (.ref (He.ga K c)) none H'
      | .bad => False) → Q v H' := fun {v d ρ' σ' H' V'} E' r' g => by
      cases e0 : ρ'[0]? with
      | none => rw [e0] at g; exact False.elim g
      | some t =>
        rw [e0] at g
        cases t with
        | no => exact False.elim g
        | ob _ => exact False.elim g
        | sh d => exact False.elim g
        | ow dd' =>
          obtain ⟨b, q1, q2, q3, q4⟩ := E'.ow 0 dd' e0
          have eb : b = a := by
            have := E'.lent a rfl
            rw [q1] at this
            exact L2.V.ref.inj (Option.some.inj (Option.some.inj this))
          subst eb
          exact g v H' V' E'.ext q2 q4 r'
    cases e : f (start1 N.length dd ds) with
    | rt d ρ' => rw [e] at g; exact fun v σ' H' V' E' _ r' => fin E' r' g
    | rf d ρ' => rw [e] at g; exact fun v σ' H' V' E' _ r' _ => fin E' r' g
    | nx ρ' => rw [e] at g; exact fun σ' H' V' E' _ => fin E' .non g
    | exc c => rw [e] at g; exact fun σ' H' V' x => g H' V' x
    | bk ρ' => rw [e] at g; exact False.elim g
    | ct ρ' => rw [e] at g; exact False.elim g
    | bad => rw [e] at g; exact False.elim g
  · unfold fnRunL at h
    by_cases hl : ds.length = ps.length - 1
    · omega
    · rw [if_neg hl] at h; exact absurd rfl h
end
/-- f(d, ..), d an own list in slot i -/
def callI (i : Nat) (m : PyData → List PyData → R (PyData × PyData)) (a : M (List PyData)) : M PyData := M.bind a fun ds ρ => match ρ[i]? with
  | some (.ow dd) => (match m dd ds with
    | .ok (d, dd') => .ok (d, ρ.set i (.ow dd'))
    | .exc c => .exc c
    | .bad => .bad)
  | _ => .bad
def callL (i : Nat) (m : PyData → List PyData → R (PyData × PyData)) (a : M (List PyData)) : M PyData := fun ρ => if isOwn1 ρ[i]? = true then callI i m a ρ else .bad
theorem EnvR.lendX {K : KW} {F : Fr} {σ : St} {ρ : Rho} {H V H' V' : Hp} (E : EnvR K F H V σ ρ) {i : Nat} {a : Addr} {dd : PyData} (h0 : ρ[i]? = some (.ow dd)) (h1 : σ[i]? = some (some (.ref a))) (x : Ext (hide H a) V H' V') : Ext F.H0 F.V0 H' V' := by
  obtain ⟨b, q1, q2, q3, q4⟩ := E.ow i dd h0
  rw [h1] at q1
  cases q1
  have ne : ∀ {b : Addr}, F.H0 b ≠ none → b ≠ a := fun {b} e z => e (by rw [z]; exact q3)
  exact ⟨fun b o e n => x.h b o (by rw [hide_ne (ne (by rw [e]; exact fun z => nomatch z))]; exact E.ext.h b o e n) n, E.ext.v.trans x.v, x.s, (fun b e1 e2 => x.f b (E.ext.f b e1 e2) (by rw [hide_ne (ne e2)]; exact E.ext.th b e2)), (fun b h => x.th b (by rw [hide_ne (ne h)]; exact E.ext.th b h)), fun t => x.t (tabs_hide q4.plain (E.ext.t t))⟩
theorem EnvR.lend {K : KW} {F : Fr} {σ : St} {ρ : Rho} {H V H' V' : Hp} (E : EnvR K F H V σ ρ) {i : Nat} {a : Addr} {dd dd' : PyData} (h0 : ρ[i]? = some (.ow dd)) (h1 : σ[i]? = some (some (.ref a))) (x : Ext (hide H a) V H' V') (va : V' a = none) (ho : OwnAt K V' H' a dd') : Stp K F σ ρ (ρ.set i (.ow dd')) H V H' V' := by
  obtain ⟨b, q1, q2, q3, q4⟩ := E.ow i dd h0
  rw [h1] at q1
  cases q1
  have hil : i < ρ.length := (List.getElem?_eq_some_iff.mp h0).1
  have ne : ∀ {b : Addr} {o : HO}, F.H0 b = some o → b ≠ a := fun {b o} e z => by rw [z, q3] at e; cases e
  have kx : ∀ b o, H b = some o → nT o → b ≠ a → H' b = some o := fun b o e nt n => x.h b o (by rw [hide_ne n]; exact e) nt
  have fx : ∀ b, V b = none → H b ≠ none → V' b = none := fun b e1 e2 => by
    by_cases n : b = a
    · rw [n]; exact va
    · exact x.f b e1 (by rw [hide_ne n]; exact e2)
  have ext : Ext F.H0 F.V0 H' V' := E.lendX h0 h1 x
  have ow : ∀ {j : Nat} {e : PyData}, (ρ.set i (.ow dd'))[j]? = some (.ow e) → ∃ e, ρ[j]? = some (.ow e) := fun {j e} h => by
    rcases getElem_set_some h with ⟨rfl, q, hi⟩ | ⟨n, q⟩
    · exact ⟨dd, h0⟩
    · exact ⟨e, q⟩
  refine ⟨⟨by simp [E.len], ext, fun j e h => ?_, fun j e h => ?_, fun j k b e e' w1 w2 w3 w4 => ?_, E.lent, E.tab, E.ob.setR fun _ z => nomatch z⟩, x.v, fun b o e nt n => kx b o e nt fun z => n ⟨i, dd, h0, by rw [z]; exact h1⟩, fun b h => ?_, fun j e h => ?_, fx, fun b h => ?_⟩
  · rcases getElem_set_some h with ⟨_, q, _⟩ | ⟨n, q⟩
    · cases q
    · obtain ⟨v, w1, w2⟩ := E.sh j e q
      exact ⟨v, w1, w2.mono x.v⟩
  · rcases getElem_set_some h with ⟨rfl, q, hi⟩ | ⟨n, q⟩
    · cases q
      exact ⟨a, h1, va, q3, ho⟩
    · obtain ⟨b, w1, w2, w3, w4⟩ := E.ow j e q
      have nb : b ≠ a := fun z => n (by rw [z] at w1; exact E.dis i j a dd e h0 q h1 w1)
      obtain ⟨o, w5, _⟩ := w4.there
      exact ⟨b, w1, fx b w2 (by rw [w5]; exact fun z => nomatch z), w3, w4.mono x.v fun o e nt => kx b o e nt nb⟩
  · obtain ⟨e1, u1⟩ := ow w1
    obtain ⟨e2, u2⟩ := ow w2
    exact E.dis j k b e1 e2 u1 u2 w3 w4
  · obtain ⟨j, e, w1, w2⟩ := h
    obtain ⟨e1, u1⟩ := ow w1
    exact ⟨j, e1, u1, w2⟩
  · rcases getElem_set_some h with ⟨_, q, _⟩ | ⟨n, q⟩
    · cases q
    · exact q
  · by_cases n : b = a
    · rw [n]
      obtain ⟨o, w5, _⟩ := ho.there
      rw [w5]
      exact fun z => nomatch z
    · exact x.th b (by rw [hide_ne n]; exact h)
section
variable {X : Cx} {F : Fr} {es : List Expr} {fs : M (List PyData)} {pos p : Pos}
theorem pm_callL (i : Nat) {y : Str} {py : Pos} {lvl : Nat} {x : Str} {ps : List Str} {m : PyData → List PyData → R (PyData × PyData)} (G : FnL X.prog X.w X.K X.mg X.base lvl x ps m) (hr : Room lvl X.A) (tk : Tk X F) (ha : PMA X F es fs) (hg : Gl X x := by rfl)
    (hN : X.N[i]? = some y := by rfl) (hv : Vis X.env.scope y := by first | exact Or.inl rfl | exact Or.inr (Or.inl rfl) | exact Or.inr (Or.inr rfl)) (hd : (y == ("__debug__" : Str)) = false := by decide) (hcd : (y == ("__classdict__" : Str)) = false := by decide)
    (hdb : (x == ("__debug__" : Str)) = false := by decide) (he : starEach (.Name y py :: es) X.env = (false, eval (.Name y py) X.env) :: starEach es X.env := by rfl) (hpl : (backTo pos (starEach es X.env)).any (·.1) = false := by rfl) : PM X F (.Call (.Name x p) (.Name y py :: es) [] pos) (callL i m fs) := by
  obtain ⟨fd, G1, G2, G3, G4, G5⟩ := G
  refine PE.imp (pe_callS G1 hr hg G4 G3 G2 (fun σ => L2N.passAt tk σ) (pa_cons (pe_var hN hv hd hcd) ha he) hdb he hpl) fun σ H Q ⟨V, ρ, E, g0⟩ => ?_
  have g0 : Goal X.kw F σ ρ H V (Rep X.kw) (if isOwn1 ρ[i]? = true then callI i m fs ρ else .bad) Q := g0
  by_cases hio : isOwn1 ρ[i]? = true
  · rw [if_pos hio] at g0
    cases eo : ρ[i]? with
    | none => rw [eo] at hio; cases hio
    | some s =>
      cases s with
      | no => rw [eo] at hio; cases hio
      | ob _ => rw [eo] at hio; cases hio
      | sh d => rw [eo] at hio; cases hio
      | ow d0 =>
        obtain ⟨a, h1, h2, h3, h4⟩ := E.ow i _ eo
        refine ⟨.ref a, h1, V, ρ, E, Goal.bind g0 fun vs ds H1 V1 ρ1 st1 r1 g1 => ?_⟩
        cases eo1 : ρ1[i]? with
        | none => rw [eo1] at g1; exact False.elim g1
        | some s1 =>
          rw [eo1] at g1
          cases s1 with
          | no => exact False.elim g1
          | ob _ => exact False.elim g1
          | sh d => exact False.elim g1
          | ow dd =>
            obtain ⟨a', q1, q2, q3, q4⟩ := st1.env.ow i _ eo1
            have ea : a' = a := by rw [h1] at q1; exact (L2.V.ref.inj (Option.some.inj (Option.some.inj q1))).symm
            subst ea
            have g1 : Goal X.kw F σ ρ1 H1 V1 (Rep X.kw) (match m dd ds with
              | .ok (d, dd') => .ok (d, ρ1.set i (.ow dd'))
              | .exc c => .exc c
              | .bad => .bad) Q := g1
            have len : ∀ (h : m dd ds ≠ .bad), (L2.V.ref a' :: vs).length = ps.length := fun h => by rw [List.length_cons, r1.length]; exact G5 dd ds h
            cases em : m dd ds with
            | ok pr =>
              obtain ⟨d, dd'⟩ := pr
              rw [em] at g1
              refine ⟨len (by rw [em]; exact fun z => nomatch z), a', vs, V1, dd, ds, st1.env.tabs, rfl, st1.env.sub, q2, q4, r1, ?_⟩
              rw [em]
              exact fun v H' V' x va ho r => g1 v H' V' (st1.env.lend eo1 q1 x va ho) r
            | exc c =>
              rw [em] at g1
              refine ⟨len (by rw [em]; exact fun z => nomatch z), a', vs, V1, dd, ds, st1.env.tabs, rfl, st1.env.sub, q2, q4, r1, ?_⟩
              rw [em]
              exact fun H' V' x => ⟨rfl, g1 H' V' (st1.env.lendX eo1 q1 x)⟩
            | bad => rw [em] at g1; exact False.elim g1
  · rw [if_neg hio] at g0
    exact False.elim g0
end
end DL
set_option Elab.async false
set_option linter.all false
set_option maxRecDepth 100000
set_option maxHeartbeats 1000000
namespace DL
open PySem PySem.Spec PyProof.Rows L2
variable [TabCtx]
def demSl : Sl → Sl
  | .ow d => .sh d
  | s => s
/-- true: slot 0 (a lent thing) stays own -/
def demR : Bool → Rho → Rho
  | false, ρ => ρ.map demSl
  | true, [] => []
  | true, s :: ρ => s :: ρ.map demSl
def immSl : Sl → Bool
  | .ow (.list ds) => immL ds
  | .no => true
  | _ => false
def backR : Bool → Rho → Rho → Option Rho
  | false, ρ, _ => some ρ
  | true, _ :: r, s :: _ => if immSl s = true then some (s :: r) else none
  | true, _, _ => none
def brw (b : Bool) (f : M PyData) : M PyData := fun ρ => match f (demR b ρ) with
  | .ok (d, ρ') => if imm d = true then (match backR b ρ ρ' with
    | some ρ'' => .ok (d, ρ'')
    | none => .bad) else .bad
  | .exc c => .exc c
  | .bad => .bad
theorem demR_len (b : Bool) (ρ : Rho) : (demR b ρ).length = ρ.length := by
  cases b with
  | false => exact List.length_map ..
  | true => cases ρ with
    | nil => rfl
    | cons s r => simp [demR]
theorem demR_ow {b : Bool} {ρ : Rho} {i : Nat} {d : PyData} (h : (demR b ρ)[i]? = some (.ow d)) : i = 0 ∧ b = true ∧ ρ[i]? = some (.ow d) := by
  have m : ∀ {r : Rho} {i : Nat}, (r.map demSl)[i]? ≠ some (.ow d) := fun {r i} h => by
    rw [List.getElem?_map] at h
    obtain ⟨s, _, h2⟩ := Option.map_eq_some_iff.mp h
    cases s <;> cases h2
  cases b with
  | false => exact absurd h m
  | true => cases ρ with
    | nil => cases h
    | cons s r =>
      cases i with
      | zero => exact ⟨rfl, rfl, h⟩
      | succ i => exact absurd (show (r.map demSl)[i]? = some (.ow d) from h) m
theorem demR_sh {b : Bool} {ρ : Rho} {i : Nat} {d : PyData} (h : (demR b ρ)[i]? = some (.sh d)) : ρ[i]? = some (.sh d) ∨ (ρ[i]? = some (.ow d) ∧ (b = true → i ≠ 0)) := by
  have m : ∀ {r : Rho} {i : Nat}, (r.map demSl)[i]? = some (.sh d) → r[i]? = some (.sh d) ∨ r[i]? = some (.ow d) := fun {r i} h => by
    rw [List.getElem?_map] at h
    obtain ⟨s, h1, h2⟩ := Option.map_eq_some_iff.mp h
    cases s with
    | no => cases h2
    | ob _ => cases h2
    | sh e => cases h2; exact .inl h1
    | ow e => cases h2; exact .inr h1
  cases b with
  | false => exact (m h).imp id fun q => ⟨q, fun z => nomatch z⟩
  | true => cases ρ with
    | nil => cases h
    | cons s r =>
      cases i with
      | zero => exact .inl h
      | succ i => exact (m (show (r.map demSl)[i]? = some (.sh d) from h)).imp id fun q => ⟨q, fun _ => Nat.succ_ne_zero i⟩
theorem demR_ob {b : Bool} {ρ : Rho} {i : Nat} {o : Ob} (h : (demR b ρ)[i]? = some (.ob o)) : ρ[i]? = some (.ob o) := by
  have m : ∀ {r : Rho} {i : Nat}, (r.map demSl)[i]? = some (.ob o) → r[i]? = some (.ob o) := fun {r i} h => by
    rw [List.getElem?_map] at h
    obtain ⟨s, h1, h2⟩ := Option.map_eq_some_iff.mp h
    cases s with
    | ob e => cases h2; exact h1
    | no => cases h2
    | sh e => cases h2
    | ow e => cases h2
  cases b with
  | false => exact m h
  | true => cases ρ with
    | nil => cases h
    | cons s r =>
      cases i with
      | zero => exact h
      | succ i => exact m (show (r.map demSl)[i]? = some (.ob o) from h)
theorem demR_keep {ρ : Rho} {d : PyData} (h : ρ[0]? = some (.ow d)) : (demR true ρ)[0]? = some (.ow d) := by
  cases ρ with
  | nil => cases h
  | cons s r => exact h
open Classical in
/-- what is seen if own things are -/
noncomputable def shown (P : Addr → Prop) (V H : Hp) : Hp := fun c => if P c then H c else V c
open Classical in
noncomputable def veiled (P : Addr → Prop) (V : Hp) : Hp := fun c => if P c then none else V c
section
variable {K : KW} {F : Fr} {σ : St} {ρ ρ' ρ'' : Rho} {H V H' V' : Hp}
theorem shown_p {P : Addr → Prop} {c : Addr} (h : P c) : shown P V H c = H c := by unfold shown; rw [if_pos h]
theorem shown_n {P : Addr → Prop} {c : Addr} (h : ¬ P c) : shown P V H c = V c := by unfold shown; rw [if_neg h]
theorem veiled_p {P : Addr → Prop} {c : Addr} (h : P c) : veiled P V c = none := by unfold veiled; rw [if_pos h]
theorem veiled_n {P : Addr → Prop} {c : Addr} (h : ¬ P c) : veiled P V c = V c := by unfold veiled; rw [if_neg h]
def Let (σ : St) (ρ : Rho) (b : Bool) (c : Addr) : Prop := IsOwn σ ρ c ∧ ¬ IsOwn σ (demR b ρ) c
theorem EnvR.own_at (E : EnvR K F H V σ ρ) {c : Addr} (h : IsOwn σ ρ c) : V c = none ∧ F.H0 c = none ∧ ∃ o, H c = some o ∧ (∀ xs, o ≠ .tup xs) ∧ (∀ u xs, o ≠ .frz u (.tup xs)) ∧ Plain o := by
  obtain ⟨i, d, h1, h2⟩ := h
  obtain ⟨a, q1, q2, q3, q4⟩ := E.ow i d h1
  rw [h2] at q1
  cases q1
  exact ⟨q2, q3, q4.there⟩
theorem EnvR.let_at (E : EnvR K F H V σ ρ) {b : Bool} {i : Nat} {d : PyData} {a : Addr} (h : ρ[i]? = some (.ow d)) (h2 : σ[i]? = some (some (.ref a))) (hb : b = true → i ≠ 0) : Let σ ρ b a := by
  refine ⟨⟨i, d, h, h2⟩, fun ⟨j, e, q1, q2⟩ => ?_⟩
  obtain ⟨rfl, hb', q3⟩ := demR_ow q1
  exact hb hb' (E.dis i 0 a d e h q3 h2 q2)
theorem EnvR.dem (E : EnvR K F H V σ ρ) (b : Bool) : EnvR K F H (shown (Let σ ρ b) V H) σ (demR b ρ) := by
  have sv : Same V (shown (Let σ ρ b) V H) := fun c o e => by
    rw [shown_n (fun h => by rw [(E.own_at h.1).1] at e; cases e)]; exact e
  refine ⟨by rw [demR_len]; exact E.len, ⟨E.ext.h, E.ext.v.trans sv, fun c o e => ?_, fun c h1 h2 => ?_, E.ext.th, E.ext.t⟩, fun i d h => ?_, fun i d h => ?_, fun i j a d e h1 h2 h3 h4 => ?_, E.lent, E.tab, E.ob.sub fun i o h => ⟨demR_ob h, rfl⟩⟩
  · by_cases h : Let σ ρ b c
    · rw [shown_p h] at e; exact e
    · rw [shown_n h] at e; exact E.sub c o e
  · rw [shown_n (fun h => h2 (E.own_at h.1).2.1)]; exact E.ext.f c h1 h2
  · rcases demR_sh h with q | ⟨q, hb⟩
    · obtain ⟨v, w1, w2⟩ := E.sh i d q
      exact ⟨v, w1, w2.mono sv⟩
    · obtain ⟨a, w1, w2, w3, w4⟩ := E.ow i d q
      refine ⟨.ref a, w1, ?_⟩
      have el : shown (Let σ ρ b) V H a = H a := shown_p (E.let_at q w1 hb)
      cases d with
      | list ds => obtain ⟨vs, e, r⟩ := w4; exact .lst (el.trans e) (r.mono sv)
      | dict ps =>
        rcases w4 with ⟨kvs, e, r, n⟩ | ⟨kvs, ep, e, r⟩
        · exact .dk (.inl (el.trans e)) (r.mono sv) n
        · exact .dt (el.trans e) (r.mono sv)
      | _ => exact w4.elim
  · obtain ⟨rfl, hb, q⟩ := demR_ow h
    obtain ⟨a, w1, w2, w3, w4⟩ := E.ow 0 d q
    exact ⟨a, w1, by rw [shown_n (fun z => z.2 ⟨0, d, h, w1⟩)]; exact w2, w3, w4.mono sv fun _ e _ => e⟩
  · exact E.dis i j a d e (demR_ow h1).2.2 (demR_ow h2).2.2 h3 h4
theorem immL_mono {K : KW} {V V' H : Hp} {a : Addr} {s : Sl} {d : PyData} (e : s = .ow d) (h : immSl s = true) (o : OwnAt K V H a d) (t : SameT V V') : OwnAt K V' H a d := by
  subst e
  cases d with
  | list ds => obtain ⟨vs, e, r⟩ := o; exact ⟨vs, e, r.imm t h⟩
  | _ => cases h
theorem EnvR.back (E : EnvR K F H V σ ρ) {b : Bool} (st : Stp K F σ (demR b ρ) ρ' H (shown (Let σ ρ b) V H) H' V') (hb : backR b ρ ρ' = some ρ'') :
    Stp K F σ ρ ρ'' H V H' (veiled (Let σ ρ b) V') ∧ SameT V' (veiled (Let σ ρ b) V') := by
  have sT : SameT V' (veiled (Let σ ρ b) V') := by
    have no : ∀ c, Let σ ρ b c → ∃ o, V' c = some o ∧ (∀ xs, o ≠ .tup xs) ∧ ∀ u xs, o ≠ .frz u (.tup xs) := fun c h => by
      obtain ⟨_, _, o, q1, q2, q3, _⟩ := E.own_at h.1
      exact ⟨o, st.v c o (by rw [shown_p h]; exact q1), q2, q3⟩
    refine ⟨fun c xs e => ?_, fun c u xs e => ?_⟩
    · rw [veiled_n (fun h => by obtain ⟨o, q1, q2, _⟩ := no c h; rw [q1] at e; exact q2 xs (Option.some.inj e))]; exact e
    · rw [veiled_n (fun h => by obtain ⟨o, q1, _, q2⟩ := no c h; rw [q1] at e; exact q2 u xs (Option.some.inj e))]; exact e
  have sv : Same V (veiled (Let σ ρ b) V') := fun c o e => by
    have n : ¬ Let σ ρ b c := fun h => by rw [(E.own_at h.1).1] at e; cases e
    rw [veiled_n n]
    exact st.v c o (by rw [shown_n n]; exact e)
  have kp : ∀ c o, H c = some o → nT o → ¬ IsOwn σ (demR b ρ) c → H' c = some o := st.keep
  have od : ∀ {c}, IsOwn σ (demR b ρ) c → IsOwn σ ρ c := fun {c} ⟨i, d, h1, h2⟩ => ⟨i, d, (demR_ow h1).2.2, h2⟩
  -- the slots behind
  have sl : ∀ {i : Nat} {t : Sl}, ρ''[i]? = some t → (ρ[i]? = some t ∧ (b = true → i ≠ 0)) ∨ (i = 0 ∧ b = true ∧ ρ'[0]? = some t ∧ immSl t = true) := fun {i t} h => by
    cases b with
    | false =>
      cases hb
      exact .inl ⟨h, fun z => nomatch z⟩
    | true =>
      cases ρ with
      | nil => cases ρ' <;> cases hb
      | cons s r =>
        cases ρ' with
        | nil => cases hb
        | cons s' r' =>
          have hb : (if immSl s' = true then some (s' :: r) else none) = some ρ'' := hb
          by_cases hi : immSl s' = true
          · rw [if_pos hi] at hb
            cases hb
            cases i with
            | zero =>
              have e : s' = t := Option.some.inj h
              subst e
              exact .inr ⟨rfl, rfl, rfl, hi⟩
            | succ i => exact .inl ⟨h, fun _ => Nat.succ_ne_zero i⟩
          · rw [if_neg hi] at hb; cases hb
  have len : ρ''.length = ρ.length := by
    cases b with
    | false => cases hb; rfl
    | true =>
      cases ρ with
      | nil => cases ρ' <;> cases hb
      | cons s r =>
        cases ρ' with
        | nil => cases hb
        | cons s' r' =>
          have hb : (if immSl s' = true then some (s' :: r) else none) = some ρ'' := hb
          by_cases hi : immSl s' = true
          · rw [if_pos hi] at hb; cases hb; rfl
          · rw [if_neg hi] at hb; cases hb
  have ow0 : ∀ {d : PyData}, ρ'[0]? = some (.ow d) → ∃ e, ρ[0]? = some (.ow e) := fun {d} h => by
    obtain ⟨a, w1, _⟩ := st.env.ow 0 d h
    obtain ⟨j, e, q1, q2⟩ := st.own a ⟨0, d, h, w1⟩
    obtain ⟨rfl, _, q3⟩ := demR_ow q1
    exact ⟨e, q3⟩
  have owf : ∀ {i : Nat} {d : PyData}, ρ''[i]? = some (.ow d) → ∃ e, ρ[i]? = some (.ow e) := fun {i d} h => by
    rcases sl h with ⟨q, _⟩ | ⟨rfl, _, q, _⟩
    · exact ⟨d, q⟩
    · exact ow0 q
  refine ⟨⟨⟨by rw [len]; exact E.len, ⟨st.env.ext.h, E.ext.v.trans sv, fun c o e => ?_, fun c h1 h2 => ?_, st.env.ext.th, st.env.ext.t⟩, fun i d h => ?_, fun i d h => ?_, fun i j a d e h1 h2 h3 h4 => ?_, E.lent, E.tab, E.ob.sub fun i o h => by
    rcases sl h with ⟨q, _⟩ | ⟨_, _, _, q⟩
    · exact ⟨q, rfl⟩
    · cases q⟩, sv, fun c o e nt n => kp c o e nt fun z => n (od z), fun c h => ?_, fun i d h => ?_, fun c h1 h2 => ?_, st.th⟩, sT⟩
  · by_cases h : Let σ ρ b c
    · rw [veiled_p h] at e; cases e
    · rw [veiled_n h] at e; exact st.env.ext.s c o e
  · by_cases h : Let σ ρ b c
    · exact veiled_p h
    · rw [veiled_n h]; exact st.env.ext.f c h1 h2
  · rcases sl h with ⟨q, _⟩ | ⟨_, _, _, q⟩
    · obtain ⟨v, w1, w2⟩ := E.sh i d q
      exact ⟨v, w1, w2.mono sv⟩
    · cases q
  · rcases sl h with ⟨q, hb'⟩ | ⟨rfl, hb', q, hi⟩
    · obtain ⟨a, w1, w2, w3, w4⟩ := E.ow i d q
      have la := E.let_at q w1 hb'
      exact ⟨a, w1, veiled_p la, w3, w4.mono sv fun o e nt => kp a o e nt la.2⟩
    · obtain ⟨a, w1, w2, w3, w4⟩ := st.env.ow 0 d q
      obtain ⟨e, q2⟩ := ow0 q
      have n : ¬ Let σ ρ b a := fun h => h.2 (by subst hb'; exact ⟨0, e, demR_keep q2, w1⟩)
      exact ⟨a, w1, by rw [veiled_n n]; exact w2, w3, immL_mono rfl hi w4 sT⟩
  · obtain ⟨e1, q1⟩ := owf h1
    obtain ⟨e2, q2⟩ := owf h2
    exact E.dis i j a e1 e2 q1 q2 h3 h4
  · obtain ⟨i, d, h1, h2⟩ := h
    obtain ⟨e, q⟩ := owf h1
    exact ⟨i, e, q, h2⟩
  · rcases sl h with ⟨q, _⟩ | ⟨_, _, _, q⟩
    · exact q
    · cases q
  · by_cases h : Let σ ρ b c
    · exact veiled_p h
    · rw [veiled_n h]; exact st.f c (by rw [shown_n h]; exact h1) h2
end
section
variable {X : Cx} {F : Fr} {e : Expr} {fa : M PyData} {pos : Pos}
theorem pm_brw (b : Bool) (h : PM X F e fa) : PM X F e (brw b fa) := by
  refine PE.imp h fun σ H Q ⟨V, ρ, E, g⟩ => ⟨shown (Let σ ρ b) V H, demR b ρ, E.dem b, ?_⟩
  have g : Goal X.kw F σ ρ H V (Rep X.kw) (match fa (demR b ρ) with
    | .ok (d, ρ') => if imm d = true then (match backR b ρ ρ' with
      | some ρ'' => .ok (d, ρ'')
      | none => .bad) else .bad
    | .exc c => .exc c
    | .bad => .bad) Q := g
  cases ef : fa (demR b ρ) with
  | exc c => rw [ef] at g; exact g
  | bad => rw [ef] at g; exact g
  | ok pr =>
    obtain ⟨d, ρ'⟩ := pr
    rw [ef] at g
    have g : Goal X.kw F σ ρ H V (Rep X.kw) (if imm d = true then (match backR b ρ ρ' with
      | some ρ'' => .ok (d, ρ'')
      | none => .bad) else .bad) Q := g
    by_cases hi : imm d = true
    · rw [if_pos hi] at g
      intro v H' V' st r
      cases eb : backR b ρ ρ' with
      | none => rw [eb] at g; exact False.elim g
      | some ρ'' =>
        rw [eb] at g
        obtain ⟨s1, s2⟩ := E.back st eb
        exact g v H' _ s1 (r.imm s2 hi)
    · rw [if_neg hi] at g
      exact False.elim g
/-- a statement that lets own things go -/
def demO (b : Bool) (f : SM) : SM := fun ρ => f (demR b ρ)
theorem pms_dem (b : Bool) {st : Stmt} {f : SM} (h : PMS X F st f) : PMS X F st (demO b f) := by
  refine PS.imp h fun D σ H ⟨V, ρ, E, g⟩ => ⟨shown (Let σ ρ b) V H, demR b ρ, E.dem b, GoalS.mono (fun c o e => ?_) g⟩
  rw [shown_n (fun h => by rw [(E.own_at h.1).1] at e; cases e)]
  exact e
end
end DL
set_option Elab.async false
set_option linter.all false
set_option maxRecDepth 100000
set_option maxHeartbeats 1000000
namespace SrtQ
open PySem PyProof.Rows Srt
open SrtO hiding Str
def ltS (a b : Str) : Bool := decide (a.cps.toList < b.cps.toList)
def lexS (p q : Str × Int) : Bool := if p.1 = q.1 then decide (p.2 < q.2) else ltS p.1 q.1
theorem ltS_irrefl (a : Str) : ltS a a = false := decide_eq_false (List.lt_irrefl _)
theorem ltS_trans {a b c : Str} (h1 : ltS a b = true) (h2 : ltS b c = true) : ltS a c = true := decide_eq_true (List.lt_trans (of_decide_eq_true h1) (of_decide_eq_true h2))
section
variable {prog : Program} {w : World} {A : Around} {E : Value → Shared → Prop} {s : Shared}
/-- v is a tuple of a text and an int -/
def IsSI (h : Heap) (v : Value) (x : Str) (y : Int) : Prop := ∃ a o t u n, v = .ref a ∧ h.get? a = some o ∧ o.cls = .type "tuple" ∧ o.data = .seq #[.str x t, .int y u] n
theorem IsSI.keeps {h h' : Heap} {v : Value} {x : Str} {y : Int} (p : IsSI h v x y) (k : ∀ b o, h.get? b = some o → o.cls = .type "tuple" → h'.get? b = some o) : IsSI h' v x y := by
  obtain ⟨a, o, t, u, n, e, ho, hc, hd⟩ := p
  exact ⟨a, o, t, u, n, e, k _ _ ho hc, hc, hd⟩
end
/-- insertion -/
def ins {α : Type} (lt : α → α → Bool) (x : α) : List α → List α
  | [] => [x]
  | y :: l => if lt x y = true then x :: y :: l else y :: ins lt x l
def isort {α : Type} (lt : α → α → Bool) : List α → List α
  | [] => []
  | x :: l => ins lt x (isort lt l)
theorem ins_perm {α : Type} {lt : α → α → Bool} {x : α} : ∀ l : List α, (ins lt x l).Perm (x :: l)
  | [] => .refl _
  | y :: l => by
    unfold ins
    by_cases h : lt x y = true
    · rw [if_pos h]
    · rw [if_neg h]
      exact ((ins_perm l).cons y).trans (.swap ..)
theorem isort_perm {α : Type} {lt : α → α → Bool} : ∀ l : List α, (isort lt l).Perm l
  | [] => .refl _
  | x :: l => (ins_perm _).trans ((isort_perm l).cons x)
theorem ins_srtd {α : Type} {lt : α → α → Bool} (O : Swo lt) {x : α} : ∀ {l : List α}, Srtd lt l → Srtd lt (ins lt x l)
  | [], _ => srtd_one x
  | y :: l, h => by
    unfold ins
    by_cases q : lt x y = true
    · rw [if_pos q]
      exact List.pairwise_cons.mpr ⟨fun z hz => O.asym _ _ (O.lt_all h q z hz), h⟩
    · rw [if_neg q]
      have hq : lt x y = false := by cases e : lt x y; rfl; exact absurd e q
      refine List.pairwise_cons.mpr ⟨fun z hz => ?_, ins_srtd O (List.pairwise_cons.mp h).2⟩
      rcases List.mem_cons.mp ((ins_perm l).mem_iff.mp hz) with e | hz
      · rw [e]; exact hq
      · exact srtd_head h z hz
theorem isort_srtd {α : Type} {lt : α → α → Bool} (O : Swo lt) : ∀ l : List α, Srtd lt (isort lt l)
  | [] => List.Pairwise.nil
  | x :: l => ins_srtd O (isort_srtd O l)
theorem perm_uniq {α : Type} {lt : α → α → Bool} (O : Swo lt) (tri : ∀ x y, lt x y = false → lt y x = false → x = y) : ∀ {l m : List α}, Srtd lt l → Srtd lt m → l.Perm m → l = m
  | [], m, _, _, h => (List.Perm.eq_nil h.symm).symm
  | x :: l, [], _, _, h => absurd h.length_eq (by simp)
  | x :: l, y :: m, hl, hm, h => by
    have h1 : lt x y = false := by
      rcases List.mem_cons.mp (h.mem_iff.mp (List.mem_cons_self (a := x) (l := l))) with e | hx
      · rw [e]; exact O.refl y
      · exact srtd_head hm x hx
    have h2 : lt y x = false := by
      rcases List.mem_cons.mp (h.mem_iff.mpr (List.mem_cons_self (a := y) (l := m))) with e | hy
      · rw [e]; exact O.refl x
      · exact srtd_head hl y hy
    have e := tri x y h1 h2
    subst e
    rw [perm_uniq O tri (List.pairwise_cons.mp hl).2 (List.pairwise_cons.mp hm).2 h.cons_inv]
end SrtQ
namespace DL
open PySem PySem.Spec PyProof.Rows L2
variable [TabCtx]
def siD (p : Str × Int) : PyData := .tuple [.str p.1, .int p.2]
def flatLt : PyData → PyData → Option Bool
  | .int i, .int j => some (decide (i < j))
  | .str x, .str y => some (SrtQ.ltS x y)
  | _, _ => none
/-- lexical order of tuples of flat data -/
def lexD : List PyData → List PyData → Option Bool
  | [], [] => some false
  | [], _ :: _ => some true
  | _ :: _, [] => some false
  | x :: xs, y :: ys => (flatLt x y).bind fun b => (lexD xs ys).map fun c => if PyData.eqv x y = true then c else b
def gLt : PyData → PyData → Option PyData
  | .tuple xs, .tuple ys => (lexD xs ys).map .bool
  | x, y => (flatLt x y).map .bool
end DL
namespace DL
open PySem PySem.Spec PyProof.Rows L2
variable [TabCtx]
def fltV : L2.V → L2.V → Option Bool
  | .int i, .int j => some (decide (i < j))
  | .str x, .str y => some (SrtQ.ltS x y)
  | _, _ => none
def lexV : List L2.V → List L2.V → Option Bool
  | [], [] => some false
  | [], _ :: _ => some true
  | _ :: _, [] => some false
  | x :: xs, y :: ys => (fltV x y).bind fun b => (lexV xs ys).map fun c => if eqV x y = true then c else b
theorem lexV_cons {x y : L2.V} {xs ys : List L2.V} {b : Bool} (h : lexV (x :: xs) (y :: ys) = some b) : ∃ c d, fltV x y = some c ∧ lexV xs ys = some d ∧ b = if eqV x y = true then d else c := by
  have h : (fltV x y).bind (fun b => (lexV xs ys).map fun c => if eqV x y = true then c else b) = some b := h
  cases e1 : fltV x y with
  | none => rw [e1] at h; cases h
  | some c =>
    rw [e1] at h
    cases e2 : lexV xs ys with
    | none => rw [e2] at h; cases h
    | some d => rw [e2] at h; exact ⟨c, d, rfl, rfl, (Option.some.inj h).symm⟩
theorem lexV_flat : ∀ {xs ys : List L2.V} {b : Bool}, lexV xs ys = some b → ∀ (j : Nat) (x y : L2.V), xs[j]? = some x → ys[j]? = some y → ∃ c, fltV x y = some c
  | [], _, _, _, j, x, y, h1, _ => by simp at h1
  | _ :: _, [], _, _, j, x, y, _, h2 => by simp at h2
  | x :: xs, y :: ys, b, h, 0, u, v, h1, h2 => by
    cases h1; cases h2
    obtain ⟨c, d, e, _⟩ := lexV_cons h
    exact ⟨c, e⟩
  | x :: xs, y :: ys, b, h, j + 1, u, v, h1, h2 => by
    obtain ⟨c, d, _, e, _⟩ := lexV_cons h
    exact lexV_flat e j u v (by simpa using h1) (by simpa using h2)
theorem lexV_at {e r : Nat → Bool} {z : Bool} : ∀ {xs ys : List L2.V} {b : Bool} (i : Nat), lexV xs ys = some b → z = decide (xs.length < ys.length) → (∀ (j : Nat) (x y : L2.V), xs[j]? = some x → ys[j]? = some y → e (i + j) = eqV x y ∧ r (i + j) = (fltV x y).getD false) →
    Ob.lexAt e r z i (min xs.length ys.length) = b
  | [], [], b, i, h, hz, _ => by cases h; rw [hz]; rfl
  | [], _ :: _, b, i, h, hz, _ => by cases h; rw [hz]; simp [Ob.lexAt_zero]
  | _ :: _, [], b, i, h, hz, _ => by cases h; rw [hz]; simp [Ob.lexAt_zero]
  | x :: xs, y :: ys, b, i, h, hz, ht => by
    obtain ⟨c, d, h1, h2, rfl⟩ := lexV_cons h
    have m : min (x :: xs).length (y :: ys).length = min xs.length ys.length + 1 := by simp only [List.length_cons]; omega
    rw [m, Ob.lexAt_succ]
    obtain ⟨t1, t2⟩ := ht 0 x y rfl rfl
    rw [Nat.add_zero] at t1 t2
    rw [t1, t2, h1]
    by_cases q : eqV x y = true
    · rw [if_pos q, if_pos q]
      refine lexV_at (i + 1) h2 (by rw [hz]; simp) fun j u v hu hv => ?_
      have := ht (j + 1) u v (by simpa using hu) (by simpa using hv)
      rw [show i + 1 + j = i + (j + 1) by omega]
      exact this
    · rw [if_neg q, if_neg q]; rfl
theorem fltV_flat {x y : L2.V} {c : Bool} (h : fltV x y = some c) : flatV x = true ∧ flatV y = true := by
  cases x <;> cases y <;> first | exact ⟨rfl, rfl⟩ | cases h
theorem rc_flt {A : Around} {s : Shared} {x y : L2.V} {u v : Value} {c : Bool} (rx : RelV x u) (ry : RelV y v) (h : fltV x y = some c) : Ob.RcOp .Lt A s u v c := by
  cases x with
  | int i =>
    cases y with
    | int j =>
      cases h
      obtain ⟨t, rfl⟩ := rx
      obtain ⟨t', rfl⟩ := ry
      exact Ob.RcOp.lt_int _ _ _ _
    | _ => cases h
  | str i =>
    cases y with
    | str j =>
      cases h
      obtain ⟨t, rfl⟩ := rx
      obtain ⟨t', rfl⟩ := ry
      exact fun _ _ _ _ h => lt_str h
    | _ => cases h
  | _ => cases h
def rLtTD (K : KW) : R2 := fun x y H Q => ∃ (a b : Addr) (xs ys : List L2.V) (c : Bool), x = .ref a ∧ y = .ref b ∧ SqT K H a xs ∧ SqT K H b ys ∧ lexV xs ys = some c ∧ Q (.bl c) H
theorem op_ltTD {X : Cx} (hu : X.A.units < cLine) : OpR X (compareOp .Lt) (rLtTD X.kw) := by
  intro pins s σ H x y v u Q I rx ry h
  obtain ⟨a, b, xs, ys, c, rfl, rfl, ha, hb, hl, q⟩ := h
  cases rx
  cases ry
  obtain ⟨its, r1, p1, _⟩ := I.tuple ha
  obtain ⟨its2, r2, p2, _⟩ := I.tuple hb
  have at1 : ∀ j (h1 : j < its.toArray.size), ∃ x, xs[j]? = some x ∧ RelV x its.toArray[j] := fun j h1 => by
    have h1' : j < xs.length := by rw [r1.length]; simpa using h1
    obtain ⟨u, e1, e2⟩ := r1.get (List.getElem?_eq_getElem h1')
    have e3 : its.toArray[j] = u := by
      have : its[j]? = some its.toArray[j] := by simp
      rw [e1] at this
      exact (Option.some.inj this).symm
    exact ⟨_, List.getElem?_eq_getElem h1', by rw [e3]; exact e2⟩
  have at2 : ∀ j (h1 : j < its2.toArray.size), ∃ x, ys[j]? = some x ∧ RelV x its2.toArray[j] := fun j h1 => by
    have h1' : j < ys.length := by rw [r2.length]; simpa using h1
    obtain ⟨u, e1, e2⟩ := r2.get (List.getElem?_eq_getElem h1')
    have e3 : its2.toArray[j] = u := by
      have : its2[j]? = some its2.toArray[j] := by simp
      rw [e1] at this
      exact (Option.some.inj this).symm
    exact ⟨_, List.getElem?_eq_getElem h1', by rw [e3]; exact e2⟩
  have e1 : its.toArray.size = xs.length := by rw [List.size_toArray]; exact r1.length.symm
  have e2 : its2.toArray.size = ys.length := by rw [List.size_toArray]; exact r2.length.symm
  have R := Ob.RcOp.tuples_lt (A := X.A) (s := s) (e := fun j => eqV (xs.getD j .non) (ys.getD j .non)) (r := fun j => (fltV (xs.getD j .non) (ys.getD j .non)).getD false) p1 p2 hu (fun j h1 h2 => by
    obtain ⟨x, g1, r1⟩ := at1 j h1
    obtain ⟨y, g2, r2⟩ := at2 j h2
    obtain ⟨c, hc⟩ := lexV_flat hl j x y g1 g2
    obtain ⟨f1, f2⟩ := fltV_flat hc
    show SeqAt.EqAt _ _ _ _ (eqV (xs.getD j .non) (ys.getD j .non))
    rw [List.getD_eq_getElem?_getD, List.getD_eq_getElem?_getD, g1, g2]
    exact eqAt_V r1 r2 f1 f2) (fun j h1 h2 _ => by
    obtain ⟨x, g1, r1⟩ := at1 j h1
    obtain ⟨y, g2, r2⟩ := at2 j h2
    obtain ⟨c, hc⟩ := lexV_flat hl j x y g1 g2
    show Ob.RcOp .Lt _ _ _ _ ((fltV (xs.getD j .non) (ys.getD j .non)).getD false)
    rw [List.getD_eq_getElem?_getD, List.getD_eq_getElem?_getD, g1, g2]
    show Ob.RcOp .Lt _ _ _ _ ((fltV x y).getD false)
    rw [hc]
    exact rc_flt r1 r2 hc)
  rw [e1, e2, lexV_at 0 hl rfl (fun j x y h1 h2 => by
    rw [Nat.zero_add, List.getD_eq_getElem?_getD, List.getD_eq_getElem?_getD, h1, h2]
    exact ⟨rfl, rfl⟩)] at R
  have z : wpAny (model X.prog X.w) X.A (compareOp .Lt (.ref a) (.ref b)) (EP X pins σ Q) X.xe s := R X.prog X.w X.xe (EP X pins σ Q) ⟨.bl _, H, I, rfl, q⟩
  exact z
def rLtAll (K : KW) : R2 := fun x y H Q => (rI0 fun i j => .bl (decide (i < j))) x y H Q ∨ ((∃ i j, x = .str i ∧ y = .str j ∧ Q (.bl (decide (i.cps.toList < j.cps.toList))) H) ∨ rLtTD K x y H Q)
theorem op_ltAll {X : Cx} (hu : X.A.units < cLine) : OpR X (compareOp .Lt) (rLtAll X.kw) := op_lt.or (op_lt_str.or (op_ltTD hu))
theorem flt_rep {K : KW} {V : Hp} {x y : L2.V} {dx dy : PyData} {b : Bool} (rx : Rep K V x dx) (ry : Rep K V y dy) (h : flatLt dx dy = some b) : fltV x y = some b ∧ eqV x y = PyData.eqv dx dy := by
  cases rx with
  | int i => cases ry with
    | int j => exact ⟨h, by rw [PyData.eqv]; rfl⟩
    | _ => cases h
  | str i => cases ry with
    | str j => exact ⟨h, by rw [PyData.eqv]; rfl⟩
    | _ => cases h
  | _ => cases ry <;> cases h
theorem lex_rep {K : KW} {V : Hp} : ∀ {xs ys : List L2.V} {ds es : List PyData} {b : Bool}, RepL K V xs ds → RepL K V ys es → lexD ds es = some b → lexV xs ys = some b
  | _, _, _, _, _, .nil, .nil, h => h
  | _, _, _, _, _, .nil, .cons _ _, h => h
  | _, _, _, _, _, .cons _ _, .nil, h => h
  | _, _, _, _, b, @RepL.cons _ _ x xs dx ds rx r1, @RepL.cons _ _ y ys dy es ry r2, h => by
    have h : (flatLt dx dy).bind (fun b => (lexD ds es).map fun c => if PyData.eqv dx dy = true then c else b) = some b := h
    cases e1 : flatLt dx dy with
    | none => rw [e1] at h; cases h
    | some c =>
      rw [e1] at h
      cases e2 : lexD ds es with
      | none => rw [e2] at h; cases h
      | some d =>
        rw [e2] at h
        obtain ⟨f1, f2⟩ := flt_rep rx ry e1
        show (fltV x y).bind (fun b => (lexV xs ys).map fun c => if eqV x y = true then c else b) = some b
        rw [f1, lex_rep r1 r2 e2, f2]
        exact h
theorem od_lt {K : KW} : OpD K (rLtAll K) gLt := by
  intro x y dx dy z H V Q s rx ry e q
  cases rx with
  | int i => cases ry with
    | int j => cases e; exact .inl ⟨i, j, rfl, rfl, q _ _ _ (Ext.refl s) (.bl _)⟩
    | _ => cases e
  | str i => cases ry with
    | str j => cases e; exact .inr (.inl ⟨i, j, rfl, rfl, q _ _ _ (Ext.refl s) (.bl _)⟩)
    | _ => cases e
  | @tup a xs ds ha ra => cases ry with
    | @tup b ys es hb rb =>
      have e : (lexD ds es).map PyData.bool = some z := e
      obtain ⟨c, hc, rfl⟩ := Option.map_eq_some_iff.mp e
      exact .inr (.inr ⟨a, b, xs, ys, c, rfl, rfl, sqt s ha, sqt s hb, lex_rep ra rb hc, q _ _ _ (Ext.refl s) (.bl _)⟩)
    | _ => cases e
  | _ => cases ry <;> cases e
end DL
set_option Elab.async false
set_option linter.all false
set_option maxRecDepth 100000
set_option maxHeartbeats 1000000
namespace PySem
open Sem (wp)
theorem meets_enumerate_newB1 {v : Value} {o : Obj} {H : Heap → Prop} (B : Begins v o H) :
    Meets (Builtin.«enumerate.__new__» ⟨[.type "enumerate", v], []⟩) (fun _ R s => H s.heap ∧
      R (.ok (.ret (.ref (s.heap.push o).objs.size))) { s with heap := (s.heap.push o).push { cls := .type "enumerate", data := .fields #[.none, .bool false, .ref s.heap.objs.size, rawInt 0, .none, .none] } }) :=
  .of_wp fun prog w A R s h => by
    obtain ⟨hp, g, d, tk, os⟩ := s; obtain ⟨h1, h⟩ := h
    have hsub := sub_enumerate
    have q1 : ∀ {A' : Around} {E : Value → Shared → Prop} {Q : Value → Shared → Prop}, Q (.ref hp.objs.size) ⟨hp.push o, g, d, tk, os⟩ → wpAny (model prog w) A' (pyIter v) Q E ⟨hp, g, d, tk, os⟩ :=
      fun q => B.iter prog w _ _ ⟨hp, g, d, tk, os⟩ _ h1 q
    wp_walk using q1
    refine wpAny_stack_any fun st => wpAny_pure ?_
    split
    · rename_i c _ _ _ _ _
      cases (c == Value.type "enumerate")
      · wp_walk using q1
        exact ⟨_, rfl, h⟩
      · wp_walk using q1
        exact ⟨_, rfl, h⟩
    · wp_walk using q1
      exact ⟨_, rfl, h⟩
theorem call_enumerate_tuple {prog : Program} {w : World} {A : Around} {E : Value → Shared → Prop} {s : Shared} {l : Addr} {items : Array Value} {Q : Value → Shared → Prop} (hL : s.heap.IsTuple l items)
    (h : ∀ h', IsEnum h' (s.heap.objs.size + 1) s.heap.objs.size 0 .none → h'.IsTupleIter s.heap.objs.size l 0 → h'.objs.size = s.heap.objs.size + 2 →
      (∀ b o, s.heap.get? b = some o → h'.get? b = some o) → Q (.ref (s.heap.objs.size + 1)) { s with heap := h' }) :
    wpAny (model prog w) A (call (.type "enumerate") [.ref l]) Q E s := by
  refine callType_new F.called_enumerate (by decide) (F.typeCall_enumerate_1 _) (F.newCall_enumerate_1 _) (fun obj => F.args_object_init_2 obj _) F.entry_enumerate_new
    (meets_enumerate_newB1 (begins_tuple l items)) ⟨hL, ?_⟩
  have hz : (s.heap.push { cls := .type "tuple_iterator", data := .fields #[.ref l, .int 0 0] }).objs.size = s.heap.objs.size + 1 := Heap.size_push ..
  show _ ∧ _
  rw [hz]
  have he : IsEnum ((s.heap.push { cls := .type "tuple_iterator", data := .fields #[.ref l, .int 0 0] }).push
      { cls := .type "enumerate", data := .fields #[.none, .bool false, .ref s.heap.objs.size, rawInt 0, .none, .none] }) (s.heap.objs.size + 1) s.heap.objs.size 0 .none := by
    have := Heap.get?_push_size (s.heap.push { cls := .type "tuple_iterator", data := .fields #[.ref l, .int 0 0] })
      (o := { cls := .type "enumerate", data := .fields #[.none, .bool false, .ref s.heap.objs.size, rawInt 0, .none, .none] }) rfl
    rw [hz] at this; exact this
  refine ⟨⟨_, he, rfl⟩, h _ he ⟨_, Heap.get?_push_of_some _ (Heap.get?_push_size _ rfl), rfl, rfl⟩ (by rw [Heap.size_push, hz]) fun b o x => Heap.get?_push_of_some _ (Heap.get?_push_of_some _ x)⟩
end PySem
namespace DL
open PySem PySem.Spec PyProof.Rows L2
variable [TabCtx]
/-- the tuple at a, each item in a new pair -/
def IteT (K : PySem.W.Frag) (a : Addr) : It :=
  ⟨fun i H => ∃ (xs : List L2.V) (x : L2.V), SqT K H a xs ∧ xs[i]? = some x, fun i H v H' => ∃ T x, v = .ref T ∧ H T = none ∧ H' = upd H T (.tup [.int (i : Nat), x]) ∧ ∀ xs, SqT K H a xs → xs[i]? = some x, fun i H => ∃ xs : List L2.V, SqT K H a xs ∧ xs.length = i⟩
theorem turn_enumT {P : Program} {w : World} {K : PySem.W.Frag} {elts : List Expr} {kk : Nat} {tpos : Pos} (a e it : Addr) (hai : a ≠ it) (hae : e ≠ a) :
    Turn P w K (.Tuple elts kk tpos) (IteT K a) [e, it] e (fun i h => (∃ old, IsEnum h e it ((i : Nat) : Int) old) ∧ h.IsTupleIter it a i ∧ e ≠ it) where
  mem := by simp
  obj := fun i h st b hb => by
    obtain ⟨⟨old, he⟩, ⟨o, ho, hc, hd⟩, _⟩ := st
    have e' : b = e ∨ b = it := by simpa using hb
    rcases e' with z | z
    · rw [z]; exact ⟨_, he, fun v q => nomatch q⟩
    · rw [z]; exact ⟨o, ho, fun v q => by rw [hd] at q; cases q⟩
  keep := fun i h h' st k => let ⟨⟨old, he⟩, hi, hne⟩ := st; ⟨⟨old, k e (by simp) _ he⟩, hi.at fun o q => k it (by simp) o q, hne⟩
  item := by
    intro X hP hw hK hc i pins s σ H E I hf st hg
    subst hP hw hK
    obtain ⟨⟨old, he⟩, hit, hne⟩ := st
    obtain ⟨xs, x, hq, hx⟩ := hg
    obtain ⟨its, rv, p, hz⟩ := I.tuple hq
    obtain ⟨u, hu, ru⟩ := rv.get hx
    have hel : e < s.heap.objs.size := Heap.lt_size he
    have hil : it < s.heap.objs.size := by obtain ⟨_, q, _⟩ := hit; exact Heap.lt_size q
    have hlt : i < its.toArray.size := by
      have := (List.getElem?_eq_some_iff.mp hu).1
      simpa using this
    have D := Draws.tuple (prog := X.prog) (w := X.w) (A := X.A.in1) (I.ok.hd hc) it a hai its.toArray
    refine wpAny_pyNext_enum_itemD D he ⟨hit, p⟩ hlt hne (by simp [hne, hae]) fun y h' tk hy ho hst' hT hsz hk => ?_
    have eyu : y = u := by
      have h1 : its.toArray[i]? = some y := hy
      rw [List.getElem?_toArray, hu] at h1
      exact (Option.some.inj h1).symm
    subst eyu
    refine ⟨_, rfl, wpAny_letOwnedTupleGo_enum (s := { s with heap := h', toks := tk + 1 }) ho fun h'' he' sb => ?_⟩
    have hT2 : h''.get? s.heap.objs.size = some { cls := .type "tuple", data := .seq #[.int i tk, y] } := (sb.2 _ (Nat.ne_of_gt hel)).trans hT
    have new : ObjOk X.prog X.w (upd H s.heap.objs.size (.tup [.int (i : Nat), x])) h'' s.heap.objs.size (.tup [.int (i : Nat), x]) :=
      ⟨by show 2 ≤ sizeLine; decide, [.int i tk, y], .cons ⟨_, rfl⟩ (.cons ru .nil), ⟨_, hT2, rfl, _, rfl⟩⟩
    have I1 : Inv X pins σ (upd H s.heap.objs.size (.tup [.int (i : Nat), x])) { s with heap := h'', toks := tk + 1 } :=
      I.turnedNew (ch := [e, it]) (fun b ob hb q => (sb.2 b (fun z => hb (by simp [z]))).trans (hk b ob (fun z => hb (by simp [z])) (fun z => hb (by simp [z])) q)) hf (Nat.le_refl _) new
    refine ⟨.ref s.heap.objs.size, _, I1, rfl, ⟨_, x, rfl, I.hok.fresh (Nat.le_refl _), rfl, fun ys hy => by rw [I.tuple_inj hy hq]; exact hx⟩, ⟨⟨y, ?_⟩, hst'.1.at fun o q => (sb.2 it (Ne.symm hne)).trans q, hne⟩, fun b hb => ?_⟩
    · have e1 : ((i + 1 : Nat) : Int) = (i : Int) + 1 := by omega
      rw [e1]; exact he'
    · have hb' : b < s.heap.objs.size := by
        have e' : b = e ∨ b = it := by simpa using hb
        rcases e' with z | z
        · rw [z]; exact hel
        · rw [z]; exact hil
      rw [upd_ne (Nat.ne_of_lt hb')]
      exact (hf b hb).1
  done := by
    intro X hP hw hK hc i pins s σ H E I hf st hg
    subst hP hw hK
    obtain ⟨⟨old, he⟩, hit, hne⟩ := st
    obtain ⟨xs, hq, hx⟩ := hg
    obtain ⟨its, rv, p, hz⟩ := I.tuple hq
    obtain ⟨f0, f1, f2, f3, f4, f5⟩ := hf it (by simp)
    have hl := rv.length
    have D := Draws.tuple (prog := X.prog) (w := X.w) (A := X.A.in1) (I.ok.hd hc) it a hai its.toArray
    have en : i = its.toArray.size := by
      rw [List.size_toArray, ← hl]; exact hx.symm
    subst en
    exact wpAny_pyNext_enum_endD D he ⟨hit, p⟩ fun h' eb => ⟨rfl, I.turned (t' := s.toks) (fun b o hb q => eb b o hb q) f0 f1 f3 f4 f5⟩
  self := fun A i s Q E st h => let ⟨⟨_, he⟩, _⟩ := st; wpAny_pyIter_enum he h
def iEnumA (K : PySem.W.Frag) (ta : TA) : TI := fun σ H R => ta σ H fun vs H1 => ∃ a xs, vs = [.ref a] ∧ ((SqL K H1 a xs ∧ R (Ite K a) H1) ∨ (SqT K H1 a xs ∧ R (IteT K a) H1))
theorem pi_enumA {X : Cx} {e : Expr} {ta : TA} {p pos tpos : Pos} {elts : List Expr} {kk : Nat} (hg : Gl X "enumerate") (hm : X.mg "enumerate" = none) (ha : PA X [e] ta) (hs : starEach [e] X.env = [(false, eval e X.env)] := by rfl) :
    PI X (.Tuple elts kk tpos) (.Call (.Name "enumerate" p) [e] [] pos) (iEnumA X.kw ta) := by
  refine ⟨fun pins s σ H R I h => ?_⟩
  refine Call_ (ld_blt I hg hm boot_enumerate (PyProof.Rows.callWith_type1 (thn (ha.run pos pins s σ H _ I h) fun us s1 ⟨vs, H1, I1, r1, q1⟩ => ?_) hs rfl))
  obtain ⟨a, xs, ex, q1⟩ := q1
  subst ex
  cases r1 with
  | cons r rr =>
    cases rr
    cases r
    rcases q1 with ⟨hq, q⟩ | ⟨hq, q⟩
    · obtain ⟨its, rv, p', hz⟩ := I1.list hq
      refine call_enumerate_list p'.isList fun h' he hit hsz hk => wpAny_pyIter_enum he ?_
      have I2 : Inv X pins σ H1 { s1 with heap := h' } := I1.kept (t' := s1.toks) hk
      refine ⟨s1.heap.objs.size + 1, [s1.heap.objs.size + 1, s1.heap.objs.size], _, _, H1, rfl, I2, turn_enum a (s1.heap.objs.size + 1) s1.heap.objs.size, ⟨⟨.none, he⟩, hit, Nat.succ_ne_self _⟩, fun b hb => ?_, q⟩
      have e' : b = s1.heap.objs.size + 1 ∨ b = s1.heap.objs.size := by simpa using hb
      have hle : s1.heap.objs.size ≤ b := by
        rcases e' with z | z
        · rw [z]; exact Nat.le_add_right _ _
        · rw [z]; exact Nat.le_refl _
      exact I1.fpOk hle (I1.hok.fresh hle)
    · obtain ⟨its, rv, p', hz⟩ := I1.tuple hq
      have hlt : a < s1.heap.objs.size := p'.lt
      refine call_enumerate_tuple (show s1.heap.IsTuple a its.toArray from p') fun h' he hit hsz hk => wpAny_pyIter_enum he ?_
      have I2 : Inv X pins σ H1 { s1 with heap := h' } := I1.kept (t' := s1.toks) hk
      refine ⟨s1.heap.objs.size + 1, [s1.heap.objs.size + 1, s1.heap.objs.size], _, _, H1, rfl, I2, turn_enumT a (s1.heap.objs.size + 1) s1.heap.objs.size (Nat.ne_of_lt hlt) (Nat.ne_of_gt (Nat.lt_succ_of_lt hlt)), ⟨⟨.none, he⟩, hit, Nat.succ_ne_self _⟩, fun b hb => ?_, q⟩
      have e' : b = s1.heap.objs.size + 1 ∨ b = s1.heap.objs.size := by simpa using hb
      have hle : s1.heap.objs.size ≤ b := by
        rcases e' with z | z
        · rw [z]; exact Nat.le_add_right _ _
        · rw [z]; exact Nat.le_refl _
      exact I1.fpOk hle (I1.hok.fresh hle)
def enumD (i : Nat) : List PyData → List PyData
  | [] => []
  | d :: ds => .tuple [.int (i : Nat), d] :: enumD (i + 1) ds
theorem enumD_get : ∀ (ds : List PyData) (k i : Nat), (enumD k ds)[i]? = (ds[i]?).map fun d => .tuple [.int ((k + i : Nat) : Int), d]
  | [], _, _ => by simp [enumD]
  | d :: ds, k, 0 => rfl
  | d :: ds, k, i + 1 => by
    show (enumD (k + 1) ds)[i]? = _
    rw [enumD_get ds (k + 1) i, List.getElem?_cons_succ, show k + 1 + i = k + (i + 1) by omega]
theorem enumD_len : ∀ (ds : List PyData) (k : Nat), (enumD k ds).length = ds.length
  | [], _ => rfl
  | d :: ds, k => congrArg Nat.succ (enumD_len ds (k + 1))
def gEnum : List PyData → Option (List PyData)
  | [.list a] => some (enumD 0 a)
  | [.tuple a] => some (enumD 0 a)
  | _ => none
theorem itE {K : KW} {a : Addr} {xs : List L2.V} {V : Hp} {ds : List PyData} (ha : V a = some (.lst xs)) (ra : RepL K V xs ds) : ItD K (Ite K a) V (enumD 0 ds) := by
  intro i H' V' s1 s2
  have q1 : SqL K H' a xs := .inl (.inl (s2 _ _ (s1 _ _ ha)))
  refine ⟨fun d hd => ?_, fun e => ⟨xs, q1, by rw [ra.length, e, enumD_len]; exact Nat.le_refl _⟩⟩
  rw [enumD_get, Nat.zero_add] at hd
  obtain ⟨d', h1, rfl⟩ := Option.map_eq_some_iff.mp hd
  obtain ⟨v, h2, h3⟩ := ra.get i h1
  refine ⟨⟨xs, v, q1, h2⟩, fun z H'' hy => ?_⟩
  obtain ⟨T, x, rfl, hT, rfl, f⟩ := hy
  have e1 : v = x := Option.some.inj (h2.symm.trans (f xs q1))
  subst e1
  exact ⟨_, Ext.new s2 hT, new_tup s2 hT (.cons (.int _) (.cons (h3.mono s1) .nil))⟩
theorem itET {K : KW} {a : Addr} {xs : List L2.V} {V : Hp} {ds : List PyData} (ha : V a = some (.tup xs)) (ra : RepL K V xs ds) : ItD K (IteT K a) V (enumD 0 ds) := by
  intro i H' V' s1 s2
  have q1 : SqT K H' a xs := sqt s2 (s1 _ _ ha)
  refine ⟨fun d hd => ?_, fun e => ⟨xs, q1, by rw [ra.length, e, enumD_len]⟩⟩
  rw [enumD_get, Nat.zero_add] at hd
  obtain ⟨d', h1, rfl⟩ := Option.map_eq_some_iff.mp hd
  obtain ⟨v, h2, h3⟩ := ra.get i h1
  refine ⟨⟨xs, v, q1, h2⟩, fun z H'' hy => ?_⟩
  obtain ⟨T, x, rfl, hT, rfl, f⟩ := hy
  have e1 : v = x := Option.some.inj (h2.symm.trans (f xs q1))
  subst e1
  exact ⟨_, Ext.new s2 hT, new_tup s2 hT (.cons (.int _) (.cons (h3.mono s1) .nil))⟩
section
variable {X : Cx} {F : Fr} {e : Expr} {fs : M (List PyData)} {fa : M PyData} {pos p : Pos}
theorem pmi_enum {elts : List Expr} {kk : Nat} {tpos : Pos} (hm : X.mg "enumerate" = none) (ha : PMA X F [e] fs) (hg : Gl X "enumerate" := by rfl) (hs : starEach [e] X.env = [(false, eval e X.env)] := by rfl) :
    PMI X F (.Tuple elts kk tpos) (.Call (.Name "enumerate" p) [e] [] pos) (opI gEnum fs) := by
  refine PI.imp (pi_enumA hg hm ha hs) fun σ H R ⟨V, ρ, E, g0⟩ => ⟨V, ρ, E, Goal.bind g0 fun x dx H1 V1 ρ1 st1 r1 g1 => ?_⟩
  obtain ⟨z, ez, q⟩ := Goal.opt st1.env g1
  have s := st1.env.sub
  cases r1 with
  | nil => cases ez
  | cons r1 r2 =>
    cases r2 with
    | cons _ _ => cases r1 <;> cases ez
    | nil =>
      cases r1 with
      | @lst a xs ds ha ra => cases ez; exact ⟨a, xs, rfl, .inl ⟨.inl (.inl (s _ _ ha)), q _ _ _ (Ext.refl s) (itE ha ra)⟩⟩
      | @tup a xs ds ha ra => cases ez; exact ⟨a, xs, rfl, .inr ⟨sqt s ha, q _ _ _ (Ext.refl s) (itET ha ra)⟩⟩
      | _ => cases ez
end
def boolsD : List PyData → Option (List Bool)
  | [] => some []
  | .bool b :: ds => (boolsD ds).map fun bs => b :: bs
  | _ :: _ => none
theorem bools_rep {K : KW} {V : Hp} : ∀ {xs : List L2.V} {ds : List PyData} {bs : List Bool}, RepL K V xs ds → boolsD ds = some bs → xs = bs.map L2.V.bl
  | _, _, _, .nil, h => by cases h; rfl
  | _, _, bs, @RepL.cons _ _ x xs d ds r t, h => by
    cases r with
    | bl b =>
      have h : (boolsD ds).map (fun bs => b :: bs) = some bs := h
      obtain ⟨cs, h1, rfl⟩ := Option.map_eq_some_iff.mp h
      rw [bools_rep t h1]
      rfl
    | _ => cases h
def gAll : List PyData → Option PyData
  | [.list ds] => (boolsD ds).map fun bs => .bool (bs.all id)
  | _ => none
theorem cd_all {K : KW} : CallD K (rAll K) gAll := by
  intro xs ds z H V Q s r e q
  cases r with
  | nil => cases e
  | cons r1 r2 =>
    cases r2 with
    | cons _ _ => cases r1 <;> cases e
    | nil =>
      cases r1 with
      | @lst a ys es ha ra =>
        have e : (boolsD es).map (fun bs => PyData.bool (bs.all id)) = some z := e
        obtain ⟨bs, hb, rfl⟩ := Option.map_eq_some_iff.mp e
        have hy := bools_rep ra hb
        subst hy
        exact ⟨a, bs, rfl, .inl (.inl (s _ _ ha)), q _ _ _ (Ext.refl s) (.bl _)⟩
      | _ => cases e
def gTuple : List PyData → Option PyData
  | [.list ds] => some (.tuple ds)
  | [.tuple ds] => some (.tuple ds)
  | _ => none
theorem cd_tuple {K : KW} : CallD K (fun xs H Q => ∃ p ys, xs = [.ref p] ∧ ((SqL K H p ys ∧ ∀ l, H l = none → Q (.ref l) (upd H l (.tup ys))) ∨ (SqT K H p ys ∧ Q (.ref p) H))) gTuple := by
  intro xs ds z H V Q s r e q
  cases r with
  | nil => cases e
  | cons r1 r2 =>
    cases r2 with
    | cons _ _ => cases r1 <;> cases e
    | nil =>
      cases r1 with
      | @lst a ys es ha ra => cases e; exact ⟨a, ys, rfl, .inl ⟨.inl (.inl (s _ _ ha)), fun p hp => q _ _ _ (Ext.new s hp) (new_tup s hp ra)⟩⟩
      | @tup a ys es ha ra => cases e; exact ⟨a, ys, rfl, .inr ⟨sqt s ha, q _ _ _ (Ext.refl s) (.tup ha ra)⟩⟩
      | _ => cases e
def intsD : List PyData → Option (List Int)
  | [] => some []
  | .int b :: ds => (intsD ds).map fun bs => b :: bs
  | _ :: _ => none
theorem ints_rep {K : KW} {V : Hp} : ∀ {xs : List L2.V} {ds : List PyData} {bs : List Int}, RepL K V xs ds → intsD ds = some bs → xs = bs.map L2.V.int
  | _, _, _, .nil, h => by cases h; rfl
  | _, _, bs, @RepL.cons _ _ x xs d ds r t, h => by
    cases r with
    | int b =>
      have h : (intsD ds).map (fun bs => b :: bs) = some bs := h
      obtain ⟨cs, h1, rfl⟩ := Option.map_eq_some_iff.mp h
      rw [ints_rep t h1]
      rfl
    | _ => cases h
end DL
set_option Elab.async false
set_option linter.all false
set_option maxRecDepth 100000
set_option maxHeartbeats 1000000
namespace DL
open PySem PySem.Spec PyProof.Rows L2
variable [TabCtx]
def tyD : PyData → String
  | .none => "NoneType"
  | .bool _ => "bool"
  | .int _ => "int"
  | .str _ => "str"
  | .list _ => "list"
  | .tuple _ => "tuple"
  | .dict _ => "dict"
/-- a value's type; a dict by tuples besides -/
def TyY (K : KW) (H : Hp) (x : L2.V) (t : Value) : Prop := TyX K H x t ∨ ∃ a xs ep, x = .ref a ∧ H a = some (dX K.w a xs ep) ∧ t = .type "dict"
theorem ty_rep {K : KW} {V H : Hp} {x : L2.V} {d : PyData} (s : Same V H) (r : Rep K V x d) : TyY K H x (.type (tyD d)) := by
  cases r with
  | non => exact .inl (.base .non)
  | bl b => exact .inl (.base (.bl b))
  | int i => exact .inl (.base (.int i))
  | str x => exact .inl (.base (.str x))
  | lst h _ => exact .inl (.base (.lst (s _ _ h)))
  | tup h _ => exact .inl (.base (.tup (s _ _ h)))
  | dk h _ => exact h.elim (fun h => .inl (.base (.dK (s _ _ h)))) fun ⟨o, h⟩ => .inl (.fDict (s _ _ h))
  | dt h _ => exact .inr ⟨_, _, _, rfl, s _ _ h, rfl⟩
def rIsiY (K : KW) : List L2.V → Hp → VK → Prop := fun xs H Q => ∃ x c t u b, xs = [x, c] ∧ ClsV c u ∧ TyY K H x t ∧ PySem.W.kitOne K t u = some b ∧ Q (.bl b) H
theorem call_isiY {X : Cx} : CallR X (.builtin "isinstance") (rIsiY X.kw) := by
  intro pins s σ H xs us Q I r h
  obtain ⟨x, c, t, u, b, rfl, k, ty, e, q⟩ := h
  rcases ty with ty | ⟨a, ys, ep, rfl, hx, rfl⟩
  · exact call_isi pins s σ H _ us Q I r ⟨x, c, t, u, b, rfl, k, ty, e, q⟩
  · cases r with
    | cons r1 r =>
      cases r with
      | cons r2 r =>
        cases r
        have e2 := k.eq r2
        subst e2
        cases r1
        obtain ⟨⟨_, _, _, us, o, es, _, h1, h2, _⟩, _, _⟩ := (show ObjOk X.prog X.w H s.heap a (dX X.w a ys ep) from I.hok a _ hx)
        exact PySem.W.kia_one (PySem.W.kitx_dict (a := a)) I.kIn ⟨o, h1, h2.1⟩ e (fun z => nomatch z) fun tk => ⟨.bl b, H, I.tok tk, rfl, q⟩
inductive Ty where
  | int | bool | str | list | tuple | dict
def Ty.name : Ty → String
  | .int => "int"
  | .bool => "bool"
  | .str => "str"
  | .list => "list"
  | .tuple => "tuple"
  | .dict => "dict"
def isD : Ty → PyData → Bool
  | .int, .int _ => true
  | .int, .bool _ => true
  | .bool, .bool _ => true
  | .str, .str _ => true
  | .list, .list _ => true
  | .tuple, .tuple _ => true
  | .dict, .dict _ => true
  | _, _ => false
theorem kb (T : Ty) (d : PyData) : kitB (tyD d) T.name = some (isD T d) := by
  cases T <;> cases d <;> first
    | exact (by decide +kernel : kitB "NoneType" "int" = some false) | exact (by decide +kernel : kitB "bool" "int" = some true) | exact (by decide +kernel : kitB "int" "int" = some true) | exact (by decide +kernel : kitB "str" "int" = some false) | exact (by decide +kernel : kitB "list" "int" = some false) | exact (by decide +kernel : kitB "tuple" "int" = some false) | exact (by decide +kernel : kitB "dict" "int" = some false)
    | exact (by decide +kernel : kitB "NoneType" "bool" = some false) | exact (by decide +kernel : kitB "bool" "bool" = some true) | exact (by decide +kernel : kitB "int" "bool" = some false) | exact (by decide +kernel : kitB "str" "bool" = some false) | exact (by decide +kernel : kitB "list" "bool" = some false) | exact (by decide +kernel : kitB "tuple" "bool" = some false) | exact (by decide +kernel : kitB "dict" "bool" = some false)
    | exact (by decide +kernel : kitB "NoneType" "str" = some false) | exact (by decide +kernel : kitB "bool" "str" = some false) | exact (by decide +kernel : kitB "int" "str" = some false) | exact (by decide +kernel : kitB "str" "str" = some true) | exact (by decide +kernel : kitB "list" "str" = some false) | exact (by decide +kernel : kitB "tuple" "str" = some false) | exact (by decide +kernel : kitB "dict" "str" = some false)
    | exact (by decide +kernel : kitB "NoneType" "list" = some false) | exact (by decide +kernel : kitB "bool" "list" = some false) | exact (by decide +kernel : kitB "int" "list" = some false) | exact (by decide +kernel : kitB "str" "list" = some false) | exact (by decide +kernel : kitB "list" "list" = some true) | exact (by decide +kernel : kitB "tuple" "list" = some false) | exact (by decide +kernel : kitB "dict" "list" = some false)
    | exact (by decide +kernel : kitB "NoneType" "tuple" = some false) | exact (by decide +kernel : kitB "bool" "tuple" = some false) | exact (by decide +kernel : kitB "int" "tuple" = some false) | exact (by decide +kernel : kitB "str" "tuple" = some false) | exact (by decide +kernel : kitB "list" "tuple" = some false) | exact (by decide +kernel : kitB "tuple" "tuple" = some true) | exact (by decide +kernel : kitB "dict" "tuple" = some false)
    | exact (by decide +kernel : kitB "NoneType" "dict" = some false) | exact (by decide +kernel : kitB "bool" "dict" = some false) | exact (by decide +kernel : kitB "int" "dict" = some false) | exact (by decide +kernel : kitB "str" "dict" = some false) | exact (by decide +kernel : kitB "list" "dict" = some false) | exact (by decide +kernel : kitB "tuple" "dict" = some false) | exact (by decide +kernel : kitB "dict" "dict" = some true)
/-- isinstance(x, T), T a built-in class -/
def isi (T : Ty) (a : M PyData) : M PyData := op1 (fun d => some (.bool (isD T d))) a
section
variable {X : Cx} {F : Fr} {e : Expr} {es : List Expr} {fs : M (List PyData)} {fa : M PyData} {pos p p2 : Pos}
theorem pm_isi (T : Ty) {t : Str} (hm : X.mg "isinstance" = none) (hmt : X.mg t = none) (ha : PM X F e fa) (ht : bootBuiltins t = some (.type T.name) := by decide +kernel) (hg : Gl X "isinstance" := by rfl) (hgt : Gl X t := by rfl)
    (hn : t ≠ "__name__" := by decide) (hd : (t == ("__debug__" : Str)) = false := by decide)
    (he : starEach [e, .Name t p2] X.env = (false, eval e X.env) :: starEach [.Name t p2] X.env := by rfl) (he2 : starEach [.Name t p2] X.env = (false, eval (.Name t p2) X.env) :: starEach [] X.env := by rfl) (hpl : (backTo pos (starEach [.Name t p2] X.env)).any (·.1) = false := by rfl) :
    PM X F (.Call (.Name "isinstance" p) [e, .Name t p2] [] pos) (isi T fa) := by
  have h2 : PE X (.Name t p2) (tC (.ty T.name)) := pe_bltn hgt hmt ht rfl hn hd
  refine PE.imp (pe_callB call_isiY hg hm (by decide +kernel) (pa_cons ha (pa_cons h2 pa_nil he2) he) (by decide) (by decide) he hpl) fun σ H Q ⟨V, ρ, E, g0⟩ => ⟨V, ρ, E, Goal.bind g0 fun x dx H1 V1 ρ1 st1 r1 g1 => ?_⟩
  obtain ⟨z, ez, q⟩ := Goal.opt st1.env g1
  cases ez
  exact ⟨x, .ty T.name, .type (tyD dx), .type T.name, isD T dx, rfl, .ty T.name, ty_rep st1.env.sub r1, kit_ty (kb T dx), q _ _ _ (Ext.refl st1.env.sub) (.bl _)⟩
end
def findD (x : PyData) : List PyData → Option Nat
  | [] => none
  | y :: ys => if PyData.eqv y x = true then some 0 else (findD x ys).map (· + 1)
theorem findD_spec {x : PyData} : ∀ {ys : List PyData} {j : Nat}, findD x ys = some j → (∃ z, ys[j]? = some z ∧ PyData.eqv z x = true) ∧ ∀ (m : Nat) (z : PyData), m < j → ys[m]? = some z → PyData.eqv z x = false
  | [], j, h => by cases h
  | y :: ys, j, h => by
    unfold findD at h
    by_cases e : PyData.eqv y x = true
    · rw [if_pos e] at h
      cases h
      exact ⟨⟨y, rfl, e⟩, fun m z hm => absurd hm (Nat.not_lt_zero m)⟩
    · rw [if_neg e] at h
      obtain ⟨k, hk, rfl⟩ := Option.map_eq_some_iff.mp h
      obtain ⟨⟨z, h1, h2⟩, h3⟩ := findD_spec hk
      refine ⟨⟨z, h1, h2⟩, fun m w hm hw => ?_⟩
      cases m with
      | zero => cases hw; cases q : PyData.eqv y x; rfl; exact absurd q e
      | succ m => exact h3 m w (by omega) hw
def gIndex : PyData → List PyData → Option PyData
  | .list ds, [x] => if (SeqAt.shaped x && SeqAt.shaped (.list ds)) = true then (findD x ds).map fun j => .int (j : Nat) else none
  | _, _ => none
def asL : PyData → Option (List PyData)
  | .list ds => some ds
  | _ => none
/-- a list's method -/
def opM (g : PyData → List PyData → Option PyData) (a : M PyData) (as : M (List PyData)) : M PyData := M.bind a fun x => M.bind (M.opt (asL x)) fun _ => M.bind as fun xs => M.opt (g x xs)
theorem md_index {K : KW} {x : L2.V} {xs : List L2.V} {dx : PyData} {ds : List PyData} {z : PyData} {H V : Hp} {Q : VK} (s : Same V H) (rx : Rep K V x dx) (rs : RepL K V xs ds) (e : gIndex dx ds = some z) (q : ∀ v H' V', Ext H V H' V' → Rep K V' v z → Q v H') : rIndexD K x xs H Q := by
  cases rx with
  | @lst a ys es ha ra =>
    cases rs with
    | nil => cases e
    | @cons y ys' d ds' r1 r2 =>
      cases r2 with
      | cons _ _ => cases e
      | nil =>
        have e : (if (SeqAt.shaped d && SeqAt.shaped (.list es)) = true then (findD d es).map fun j => PyData.int (j : Nat) else none) = some z := e
        by_cases h : (SeqAt.shaped d && SeqAt.shaped (.list es)) = true
        · rw [if_pos h] at e
          obtain ⟨h1, h2⟩ := Bool.and_eq_true_iff.mp h
          obtain ⟨j, hj, rfl⟩ := Option.map_eq_some_iff.mp e
          obtain ⟨⟨w, w1, w2⟩, w3⟩ := findD_spec hj
          exact ⟨a, y, d, es, j, w, rfl, rfl, ((Rep.lst ha ra).mono s).dp (SeqAt.canLay_of_shaped h2), (r1.mono s).dp (SeqAt.canLay_of_shaped h1), h2, h1, w1, w2, w3, q _ _ _ (Ext.refl s) (.int _)⟩
        · rw [if_neg h] at e; cases e
  | _ => cases rs <;> cases e
section
variable {X : Cx} {F : Fr} {o e : Expr} {es : List Expr} {fs : M (List PyData)} {fa : M PyData} {cpos apos : Pos}
theorem pm_index (hu : X.A.units + 65 < cLine) (ho : PM X F o fa) (ha : PMA X F [e] fs) (hbase : attributeBase o "index" X.env (eval o X.env) = eval o X.env := by rfl)
    (hfew : ((backTo cpos (starEach [e] X.env)).all (fun x => !x.1) && (backToKw cpos (keywordEach [] X.env)).all (fun x => x.1.isSome) && decide ([e].length + ([] : List Keyword).length + (if ([] : List Keyword).isEmpty then 0 else 1) < 30)) = true := by rfl)
    (hline : (apos.endLine == cpos.line) = true := by rfl) (hs : starEach [e] X.env = (false, eval e X.env) :: starEach [] X.env := by rfl) (hplain : (backTo cpos (starEach [] X.env)).any (·.1) = false := by rfl) :
    PM X F (.Call (.Attribute o "index" apos) [e] [] cpos) (opM gIndex fa fs) := by
  refine PE.imp (pe_bm PySem.F.plainAttrs_list PySem.F.slot_list_index PySem.F.type_list_index (mt_indexD hu) ho ha hbase hfew hline hs hplain) fun σ H Q ⟨V, ρ, E, g0⟩ => ⟨V, ρ, E, Goal.bind g0 fun x dx H1 V1 ρ1 st1 r1 g1 => ?_⟩
  cases r1 with
  | @lst a ys es ha ra =>
    refine ⟨.inl ⟨rfl, ys, .inl (.inl (st1.env.sub _ _ ha))⟩, V1, ρ1, st1.env, Goal.bind g1 fun xs ds H2 V2 ρ2 st2 r2 g2 => ?_⟩
    obtain ⟨z, ez, q⟩ := Goal.opt st2.env g2
    exact md_index st2.env.sub ((Rep.lst ha ra).mono st2.v) r2 ez q
  | _ => exact False.elim g1
end
def dd : List Int → List Int
  | [] => []
  | x :: xs => if x ∈ xs then dd xs else x :: dd xs
theorem dd_mem {k : Int} : ∀ {xs : List Int}, k ∈ dd xs ↔ k ∈ xs
  | [] => Iff.rfl
  | x :: xs => by
    unfold dd
    by_cases h : x ∈ xs
    · rw [if_pos h, dd_mem, List.mem_cons]
      exact ⟨.inr, fun q => q.elim (fun e => by rw [e]; exact h) id⟩
    · rw [if_neg h, List.mem_cons, List.mem_cons, dd_mem]
theorem dd_nodup : ∀ {xs : List Int}, (dd xs).Nodup
  | [] => List.nodup_nil
  | x :: xs => by
    unfold dd
    by_cases h : x ∈ xs
    · rw [if_pos h]; exact dd_nodup
    · rw [if_neg h]; exact List.nodup_cons.mpr ⟨fun q => h (dd_mem.mp q), dd_nodup⟩
theorem nodup_len {l m : List Int} (h1 : l.Nodup) (h2 : m.Nodup) (h : ∀ k, k ∈ l ↔ k ∈ m) : l.length = m.length := ((List.perm_ext_iff_of_nodup h1 h2).mpr h).length_eq
theorem step_nodup {l : List Int} {k : Int} (h : l.Nodup) : (step_dedup l k).Nodup ∧ ∀ j, j ∈ step_dedup l k ↔ j ∈ l ∨ j = k := by
  unfold step_dedup
  cases e : l.any (· == k) with
  | true =>
    obtain ⟨x, h1, h2⟩ := List.any_eq_true.mp e
    have e2 : x = k := eq_of_beq h2
    subst e2
    exact ⟨h, fun j => ⟨.inl, fun q => q.elim id fun e => by rw [e]; exact h1⟩⟩
  | false =>
    have n : k ∉ l := fun q => by
      have : (l.any fun x => x == k) = true := List.any_eq_true.mpr ⟨k, q, beq_self_eq_true k⟩
      rw [e] at this; cases this
    refine ⟨?_, fun j => by simp⟩
    show (l ++ [k]).Nodup
    exact List.nodup_append.mpr ⟨h, List.nodup_cons.mpr ⟨by simp, List.nodup_nil⟩, fun a ha b hb z => n (by rw [List.mem_singleton.mp hb] at z; rw [← z]; exact ha)⟩
theorem fold_nodup : ∀ (ns l : List Int), l.Nodup → (ns.foldl step_dedup l).Nodup ∧ ∀ j, j ∈ ns.foldl step_dedup l ↔ j ∈ l ∨ j ∈ ns
  | [], l, h => ⟨h, fun j => by simp⟩
  | n :: ns, l, h => by
    obtain ⟨h1, h2⟩ := step_nodup (k := n) h
    obtain ⟨h3, h4⟩ := fold_nodup ns _ h1
    refine ⟨h3, fun j => ?_⟩
    show j ∈ ns.foldl step_dedup (step_dedup l n) ↔ _
    rw [h4 j, h2 j, List.mem_cons]
    constructor
    · rintro ((a | a) | a)
      · exact .inl a
      · exact .inr (.inl a)
      · exact .inr (.inr a)
    · rintro (a | a | a)
      · exact .inl (.inl a)
      · exact .inl (.inr a)
      · exact .inr a
theorem firstMet_len (ns : List Int) : (firstMet (fun i => ns.getD i 0) ns.length).length = (dd ns).length := by
  have e : (List.range ns.length).map (fun i => ns.getD i 0) = ns := by
    apply List.ext_getElem?
    intro i
    rw [List.getElem?_map]
    by_cases h : i < ns.length
    · simp [h]
    · simp [h]
  unfold firstMet
  rw [e]
  obtain ⟨h1, h2⟩ := fold_nodup ns [] List.nodup_nil
  exact nodup_len h1 dd_nodup fun k => by rw [h2 k, dd_mem]; simp
def setLen : PyData → Option PyData
  | .list ds => (intsD ds).bind fun ns => if ns.length ≤ 4000 then some (.int (dd ns).length) else none
  | .tuple ds => (intsD ds).bind fun ns => if ns.length ≤ 4000 then some (.int (dd ns).length) else none
  | _ => none
section
variable {X : Cx} {F : Fr} {a : Expr} {fa : M PyData} {p p2 q pos : Pos}
theorem pm_setLen (hm : X.mg "len" = none) (hm2 : X.mg "set" = none) (ha : PM X F a fa) (hg : Gl X "len" := by rfl) (hg2 : Gl X "set" := by rfl) (hc : X.calm = true := by rfl)
    (na : starEach [a] X.env = (false, eval a X.env) :: starEach [] X.env := by rfl) : PM X F (.Call (.Name "len" p) [.Call (.Name "set" p2) [a] [] q] [] pos) (op1 setLen fa) := by
  refine ⟨fun pins s σ H Q I h => ?_⟩
  refine Call_ (ld_blt I hg hm boot_len ?_)
  refine PyProof.Rows.callWith_builtin1 (PyProof.Rows.args_cons ?_ rfl) rfl rfl
  refine Call_ (ld_blt I hg2 hm2 boot_set ?_)
  obtain ⟨V, ρ, E, g0⟩ := h
  refine PyProof.Rows.callWith_type1 (PyProof.Rows.args_cons (thn (ha.run pins s σ H (fun x H1 => (∃ (l : Addr) (ns : List Int), x = .ref l ∧ (SqL X.kw H1 l (ns.map L2.V.int) ∨ SqT X.kw H1 l (ns.map L2.V.int)) ∧ ns.length ≤ 4000 ∧ Q (.int ((dd ns).length : Nat)) H1)) I ⟨V, ρ, E, Goal.bind g0 fun x dx H1 V1 ρ1 st1 r1 g1 => ?_⟩) fun v s1 ⟨x, H1, I1, r1, q1⟩ => PyProof.Rows.args_nil ?_) na) na rfl
  · obtain ⟨z, ez, q⟩ := Goal.opt st1.env g1
    have fin : ∀ {ds : List PyData}, ((intsD ds).bind fun ns => if ns.length ≤ 4000 then some (PyData.int (dd ns).length) else none) = some z → ∃ ns, intsD ds = some ns ∧ ns.length ≤ 4000 ∧ z = .int (dd ns).length := fun {ds} h => by
      cases e : intsD ds with
      | none => rw [e] at h; cases h
      | some ns =>
        rw [e] at h
        obtain ⟨h1, h2⟩ := ite_some h
        exact ⟨ns, rfl, h1, h2.symm⟩
    cases r1 with
    | @lst b xs ds hb rb =>
      obtain ⟨ns, h1, h2, rfl⟩ := fin ez
      have e := ints_rep rb h1
      subst e
      exact ⟨b, ns, rfl, .inl (.inl (.inl (st1.env.sub _ _ hb))), h2, q _ _ _ (Ext.refl st1.env.sub) (.int _)⟩
    | @tup b xs ds hb rb =>
      obtain ⟨ns, h1, h2, rfl⟩ := fin ez
      have e := ints_rep rb h1
      subst e
      exact ⟨b, ns, rfl, .inr (sqt st1.env.sub hb), h2, q _ _ _ (Ext.refl st1.env.sub) (.int _)⟩
    | _ => cases ez
  · obtain ⟨l, ns, rfl, hq, hl, q1⟩ := q1
    cases r1
    rcases hq with hq | hq
    · obtain ⟨its, r, pl, hz⟩ := I1.list hq
      have hlen : its.toArray.size = ns.length := by rw [List.size_toArray, ← r.length, List.length_map]
      refine call_set_list (I1.ok.hd hc) pl.isList (by simpa using RZ.intsAre_vals r) (by rw [hlen]; unfold scanBound; omega) fun h' tk hS hk => ?_
      refine PyProof.Rows.args_nil ?_
      rw [hlen, firstMet_len] at hS
      obtain ⟨o, es, ep, t, ho, hex, hd, _, _, _, hf, hn⟩ := hS
      have I2 : Inv X pins σ H1 { s1 with heap := h', toks := tk } := I1.kept fun b o e => hk b o (Heap.lt_size e) e
      have hle : (dd ns).length ≤ 4000 := by
        rw [← firstMet_len]
        exact Nat.le_trans (firstMet_length_le _ _) hl
      exact call_len_set ho hex hd hf (by rw [hn] <;> omega) ⟨.int (dd ns).length, H1, I2.tok _, ⟨_, by rw [hn]⟩, q1⟩
    · obtain ⟨its, r, pl, hz⟩ := I1.tuple hq
      refine L2.call_set_tupI ns (I1.ok.hd hc) (show s1.heap.IsTuple l its.toArray from pl) (by simpa using RZ.intsAre_vals r) (by unfold scanBound; omega) fun h' tk c hS hle hk => ?_
      refine PyProof.Rows.args_nil ?_
      obtain ⟨o, es, ep, t, ho, hex, hd, _, hnd, hmem, _, hf, hn, _⟩ := hS
      have ec : c = (dd ns).length := by
        rw [← hn, ← Array.length_toList, ← List.length_map (f := keyOf)]
        refine nodup_len hnd dd_nodup fun k => ?_
        rw [← hmem k, dd_mem]
        simp
      have I2 : Inv X pins σ H1 { s1 with heap := h', toks := tk } := I1.kept hk
      exact call_len_set ho hex hd hf (by rw [hn] <;> omega) ⟨.int (dd ns).length, H1, I2.tok _, ⟨_, by rw [hn, ec]⟩, q1⟩
end
end DL
set_option Elab.async false
set_option linter.all false
set_option maxRecDepth 100000
set_option maxHeartbeats 1000000
namespace DL
open PySem PySem.Spec PyProof.Rows L2
variable [TabCtx]
theorem u65 {k : Nat} {A : Around} (r : Room k A) : A.units + 65 < cLine := by have := r.un; omega
/-- tests over own things -/
def brwT (b : Bool) (f : M Bool) : M Bool := fun ρ => match f (demR b ρ) with
  | .ok (d, ρ') => (match backR b ρ ρ' with
    | some ρ'' => .ok (d, ρ'')
    | none => .bad)
  | .exc c => .exc c
  | .bad => .bad
theorem pmt_brw {X : Cx} {F : Fr} {e : Expr} {fa : M Bool} (b : Bool) (h : PMT X F e fa) : PMT X F e (brwT b fa) := by
  refine PT.imp h fun σ H Q ⟨V, ρ, E, g⟩ => ⟨shown (Let σ ρ b) V H, demR b ρ, E.dem b, ?_⟩
  have g : Goal X.kw F σ ρ H V (fun _ (b : Bool) a => b = a) (match fa (demR b ρ) with
    | .ok (d, ρ') => (match backR b ρ ρ' with
      | some ρ'' => .ok (d, ρ'')
      | none => .bad)
    | .exc c => .exc c
    | .bad => .bad) Q := g
  cases ef : fa (demR b ρ) with
  | exc c => rw [ef] at g; exact g
  | bad => rw [ef] at g; exact g
  | ok pr =>
    obtain ⟨d, ρ'⟩ := pr
    rw [ef] at g
    have g : Goal X.kw F σ ρ H V (fun _ (b : Bool) a => b = a) (match backR b ρ ρ' with
      | some ρ'' => .ok (d, ρ'')
      | none => .bad) Q := g
    intro v H' V' st r
    cases eb : backR b ρ ρ' with
    | none => rw [eb] at g; exact False.elim g
    | some ρ'' =>
      rw [eb] at g
      obtain ⟨s1, s2⟩ := E.back st eb
      exact g v H' _ s1 r
theorem gsN_len {ds : List PyData} {ρ ρ' : Rho} (h : gsN ds ρ = .ok ρ') : ds.length = 0 := by
  cases ds with
  | nil => rfl
  | cons _ _ => cases h
theorem gsC_len {g : GM} {gs : List PyData → Rho → R Rho} {n : Nat} (hg : ∀ ds ρ ρ', gs ds ρ = .ok ρ' → ds.length = n) : ∀ ds ρ ρ', gsC g gs ds ρ = .ok ρ' → ds.length = n + 1 := fun ds ρ ρ' h => by
  cases ds with
  | nil => cases h
  | cons d ds =>
    have h : R.bind (g d ρ) (fun ρ' => gs ds ρ') = .ok ρ' := h
    cases e : g d ρ with
    | ok ρ1 => rw [e] at h; rw [List.length_cons, hg ds ρ1 ρ' h]
    | exc c => rw [e] at h; cases h
    | bad => rw [e] at h; cases h
end DL
set_option Elab.async false
set_option linter.all false
set_option maxRecDepth 100000
set_option maxHeartbeats 1000000
namespace DL
open PySem PySem.Spec PyProof.Rows L2
variable [TabCtx]
/-- _law_cell -/
def cellI (ns : List Int) (k : Int) : Int := if ns = [] then k * 7919 else ns.getD (k % ns.length).toNat 0 + k / ns.length * 104729
def spCell (K : KW) : Sp := fun vs H Q _ => ∃ (a : Addr) (ns : List Int) (k : Int), vs = [.ref a, .int k] ∧ SqL K H a (ns.map V.int) ∧ 0 ≤ k ∧ k < 1000 ∧ ns.length ≤ 1000 ∧ ∀ H', Same H H' → Q (.int (cellI ns k)) H'
abbrev rMulI : R2 := rI CMul fun i j => .int (i * j)
def t_cell (K : KW) : TS :=
  tSeq (tIfS (tTest (tOp (rEqD K) (tVar 0) (tLst tNil))) (tRet (tOp rMulI (tVar 1) (tC (.int 7919)))) tNext)
    (tRet (tOp (rI0 fun i j => .int (i + j)) (tOp (rIxL K) (tVar 0) (tOp (rI (fun _ j => 0 < j) fun i j => .int (i % j)) (tVar 1) (tCB (fun xs H Q => ∃ x n, xs = [x] ∧ LenV K x H n ∧ Q (.int n) H) (tCons (tVar 0) tNil))))
      (tOp rMulI (tOp (rI CDivW fun i j => .int (i / j)) (tVar 1) (tCB (fun xs H Q => ∃ x n, xs = [x] ∧ LenV K x H n ∧ Q (.int n) H) (tCons (tVar 0) tNil))) (tC (.int 104729)))))
theorem dp_ints {K : KW} {H : Hp} : ∀ ns : List Int, DpAll K H (ns.map V.int) (ns.map PyData.int)
  | [] => .nil
  | n :: ns => .cons (.int n) (dp_ints ns)
theorem ints_lay : ∀ ns : List Int, PyData.canLayAll0 (ns.map PyData.int) = true
  | [] => rfl
  | n :: ns => by
    show (PyData.canLay0 (.int n) && PyData.canLayAll0 (ns.map PyData.int)) = true
    rw [ints_lay ns]; rfl
theorem ints_depth : ∀ ns : List Int, PyData.depthAll (ns.map PyData.int) = 0
  | [] => by simp [PyData.depthAll]
  | n :: ns => by
    have := ints_depth ns
    simp [PyData.depthAll, PyData.depth, this]
theorem ints_shaped (ns : List Int) : SeqAt.shaped (.list (ns.map PyData.int)) = true := by
  unfold SeqAt.shaped
  have h1 : PyData.canLay0 (.list (ns.map PyData.int)) = true := by
    rw [PyData.canLay0]; exact ints_lay ns
  have h2 : PyData.depth (.list (ns.map PyData.int)) ≤ 64 := by
    rw [PyData.depth, ints_depth]; decide
  rw [h1, decide_eq_true h2]; rfl
theorem pure_cell {K : KW} (vs : List L2.V) (H : Hp) (Q : VK) (E : XK) (h : spCell K vs H Q E) : t_cell K { nx := fun _ H' => Q .non H', rt := Q } (L2.start ["script", "k"] vs) H := by
  obtain ⟨a, ns, k, rfl, hS, h0, h1, hl, q⟩ := h
  refine ⟨.ref a, rfl, Nat.zero_le _, fun p hp => ?_⟩
  have s1 : Same H (upd H p (.lst [])) := same_new hp
  have hS1 := s1.seq hS
  refine ⟨.list (ns.map .int), .list [], .lst hS1 (dp_ints ns), .lst (.inl (.inl upd_same)) .nil, ints_shaped ns, ints_shaped [], _, rfl, ?_⟩
  cases ns with
  | nil =>
    have e : PyData.eqv (.list (List.map PyData.int [])) (.list []) = true := by rw [PyData.eqv]; rfl
    rw [e, if_pos rfl]
    refine ⟨.int k, rfl, k, 7919, rfl, rfl, .inl ⟨by omega, by omega⟩, ?_⟩
    exact q _ s1
  | cons n ns =>
    have e : PyData.eqv (.list (List.map PyData.int (n :: ns))) (.list []) = false := by rw [PyData.eqv]; rfl
    rw [e, if_neg Bool.false_ne_true]
    have hlen : LenV K (.ref a) (upd H p (.lst [])) (n :: ns).length := .inl ⟨_, hS1, (List.length_map ..).symm⟩
    have hpos : (0 : Int) < ((n :: ns).length : Nat) := by simp only [List.length_cons]; omega
    have hm0 : 0 ≤ k % (((n :: ns).length : Nat) : Int) := Int.emod_nonneg _ (by omega)
    have hm1 : k % (((n :: ns).length : Nat) : Int) < ((n :: ns).length : Nat) := Int.emod_lt_of_pos _ hpos
    have hix : ((n :: ns).map V.int)[(k % (((n :: ns).length : Nat) : Int)).toNat]? = some (.int ((n :: ns).getD (k % (((n :: ns).length : Nat) : Int)).toNat 0)) := by
      have hlt : (k % (((n :: ns).length : Nat) : Int)).toNat < (n :: ns).length := by omega
      rw [List.getElem?_map, List.getD_eq_getElem?_getD, List.getElem?_eq_getElem hlt]
      rfl
    have hat := atI_nat hix
    rw [Int.toNat_of_nonneg hm0] at hat
    refine ⟨.ref a, rfl, .int k, rfl, .ref a, rfl, _, _, rfl, hlen, k, _, rfl, rfl, hpos, a, _, _, _, rfl, rfl, hS1, hat, .int k, rfl, .ref a, rfl, _, _, rfl, hlen, k, _, rfl, rfl, ?_, _, _, rfl, rfl, .inr ⟨by omega, by omega⟩, _, _, rfl, rfl, ?_⟩
    · refine wide_div (b := 200) hpos ?_ (by decide) (by decide)
      have : (((n :: ns).length : Nat) : Int).natAbs = (n :: ns).length := Int.natAbs_natCast _
      rw [this]
      exact Nat.lt_of_le_of_lt hl (by decide)
    · have e2 : cellI (n :: ns) k = (n :: ns).getD (k % (((n :: ns).length : Nat) : Int)).toNat 0 + k / (((n :: ns).length : Nat) : Int) * 104729 := by
        unfold cellI; rw [if_neg (by simp)]
      rw [e2] at q
      exact q _ s1
/-- _law_rounds: the new lists stand at as, their list at p -/
def Rounds (cs : List Int) (H : Hp) (p : Addr) (as : List Addr) : Prop := H p = some (.lst (as.map V.ref)) ∧ as.length = cs.length ∧ as.Nodup ∧ p ∉ as ∧ ∀ (i : Nat) (a : Addr) (c : Int), as[i]? = some a → cs[i]? = some c → H a = some (.lst [.int c, .int 0])
def roundsI (ns : List Int) (high : Int) : List Int := (List.range (max 1 (min high ns.length)).toNat).map fun i => cellI ns ((0 : Int) + (i : Nat))
def spRounds (K : KW) : Sp := fun vs H Q _ => ∃ (a : Addr) (ns : List Int) (high : Int), vs = [.ref a, .int high] ∧ SqL K H a (ns.map V.int) ∧ 0 ≤ high ∧ high < 1000 ∧ ns.length ≤ 1000 ∧ ∀ H' p as, Same H H' → Rounds (roundsI ns high) H' p as → Q (.ref p) H'
def t_rounds (K : KW) (E : XK) : TS :=
  tRet (tLc (iRng1 (tCons (tCB (fun xs H Q => ∃ i j, xs = [.int i, .int j] ∧ Q (.int (if j > i then j else i)) H) (tCons (tC (.int 1)) (tCons (tCB (fun xs H Q => ∃ i j, xs = [.int i, .int j] ∧ Q (.int (if j < i then j else i)) H) (tCons (tVar 1) (tCons (tCB (fun xs H Q => ∃ x n, xs = [x] ∧ LenV K x H n ∧ Q (.int n) H) (tCons (tVar 0) tNil)) tNil))) tNil))) tNil))
    (gName 2) tYes (tLst (tCons (tCallS (spCell K) (fun _ _ _ _ => False) (tCons (tVar 0) (tCons (tVar 2) tNil))) (tCons (tC (.int 0)) tNil))) [2])
theorem pure_rounds {K : KW} (vs : List L2.V) (H : Hp) (Q : VK) (E : XK) (h : spRounds K vs H Q E) : t_rounds K E { nx := fun _ H' => Q .non H', rt := Q } (L2.start ["script", "high", "k"] vs) H := by
  obtain ⟨a, ns, high, rfl, hS, h0, h1, hl, q⟩ := h
  refine ⟨.int high, rfl, .ref a, rfl, _, ns.length, rfl, .inl ⟨_, hS, (List.length_map ..).symm⟩, _, _, rfl, _, _, rfl, ?_⟩
  have em : (if (if ((ns.length : Nat) : Int) < high then ((ns.length : Nat) : Int) else high) > 1 then (if ((ns.length : Nat) : Int) < high then ((ns.length : Nat) : Int) else high) else 1) = max 1 (min high ns.length) := by
    by_cases c : ((ns.length : Nat) : Int) < high
    · rw [if_pos c]
      by_cases c2 : ((ns.length : Nat) : Int) > 1
      · rw [if_pos c2]; omega
      · rw [if_neg c2]; omega
    · rw [if_neg c]
      by_cases c2 : high > 1
      · rw [if_pos c2]; omega
      · rw [if_neg c2]; omega
  rw [em]
  refine ⟨_, rfl, by omega, by omega, fun D hD => ?_⟩
  refine lc_range (lo := 0) (n := (max 1 (min high ns.length)).toNat) (fun i H' => ∃ as : List Addr, Same H H' ∧ H' D = some (.lst (as.map V.ref)) ∧ as.length = i ∧ as.Nodup ∧ D ∉ as ∧ ∀ (j : Nat) (b : Addr), as[j]? = some b → H' b = some (.lst [.int (cellI ns ((0 : Int) + (j : Nat))), .int 0]))
    ⟨[], same_new hD, upd_same, rfl, List.nodup_nil, by simp, fun j b hb => by simp at hb⟩ (fun i H' hi hP => ?_) fun H' hP => ?_
  · obtain ⟨as, hs, hd, hlen, hnd, hDn, hat⟩ := hP
    have hi2 : (max 1 (min high (ns.length : Int))).toNat ≤ 1000 := by omega
    refine ⟨rfl, ?_⟩
    refine Eq.mpr (if_pos (e := False) (rfl : true = true)) ?_
    refine ⟨.ref a, rfl, .int ((0 : Int) + (i : Nat)), rfl, a, ns, (0 : Int) + (i : Nat), rfl, hs.seq hS, by omega, by omega, hl, fun H2 s2 => ⟨by show 2 ≤ sizeLine; decide, fun p hp => ?_⟩⟩
    have s3 : Same H2 (upd H2 p (.lst [.int (cellI ns ((0 : Int) + (i : Nat))), .int 0])) := same_new hp
    have hD2 : H2 D = some (.lst (as.map V.ref)) := s2 _ _ hd
    have pD : p ≠ D := fun e => by rw [e, hD2] at hp; cases hp
    have pas : p ∉ as := fun e => by
      obtain ⟨j, hj⟩ := List.mem_iff_getElem?.mp e
      have := s2 _ _ (hat j p hj)
      rw [hp] at this
      cases this
    refine ⟨as.map V.ref, by rw [upd_ne (Ne.symm pD)]; exact hD2, by rw [List.length_map, hlen]; exact Nat.lt_of_lt_of_le hi (Nat.le_trans hi2 (by decide)), as ++ [p], ?_, ?_, ?_, ?_, ?_, ?_⟩
    · intro b o e
      have nb : b ≠ D := fun z => by rw [z, hD] at e; cases e
      rw [upd_ne nb]
      exact s3 _ _ (s2 _ _ (hs _ _ e))
    · rw [upd_same, List.map_append]; rfl
    · rw [List.length_append, hlen]; rfl
    · exact List.nodup_append.mpr ⟨hnd, List.nodup_cons.mpr ⟨by simp, List.nodup_nil⟩, fun x hx y hy z => pas (by rw [List.mem_singleton.mp hy] at z; rw [← z]; exact hx)⟩
    · intro e
      rcases List.mem_append.mp e with e | e
      · exact hDn e
      · exact pD (List.mem_singleton.mp e).symm
    · intro j b hb
      by_cases hj : j < as.length
      · rw [List.getElem?_append_left hj] at hb
        have nb : b ≠ D := fun z => hDn (by rw [← z]; exact List.mem_of_getElem? hb)
        have nbp : b ≠ p := fun z => pas (by rw [← z]; exact List.mem_of_getElem? hb)
        rw [upd_ne nb, upd_ne nbp]
        exact s2 _ _ (hat j b hb)
      · rw [List.getElem?_append_right (by omega)] at hb
        have ej : j = as.length := by
          have := (List.getElem?_eq_some_iff.mp hb).1
          simp at this
          omega
        subst ej
        rw [Nat.sub_self] at hb
        cases hb
        rw [upd_ne pD, upd_same, hlen]
  · obtain ⟨as, hs, hd, hlen, hnd, hDn, hat⟩ := hP
    refine q H' D as hs ⟨hd, ?_, hnd, hDn, fun i b c h1 h2 => ?_⟩
    · unfold roundsI; rw [List.length_map, List.length_range]; exact hlen
    · rw [hat i b h1]
      unfold roundsI at h2
      rw [List.getElem?_map] at h2
      obtain ⟨j, h3, h4⟩ := Option.map_eq_some_iff.mp h2
      have h5 := (List.getElem?_eq_some_iff.mp h3).2
      rw [List.getElem_range] at h5
      subst h5 h4
      rfl
/-- the slots ahead of a turn: the draw alone is known -/
def init (n di : Nat) (c : Int) : Rho := (List.replicate n Sl.no).set di (.ow (.list [.int c, .int 0]))
def spLaw (K : KW) : Sp := fun vs H Q _ => LamX.Tabs TBS H ∧ ∃ (a : Addr) (ns : List Int), vs = [.ref a] ∧ SqL K H a (ns.map V.int) ∧ ns.length ≤ 63 ∧ ∀ H', Q (.bl true) H'
abbrev mkZ (H : Hp) (a : Addr) : Fr := ⟨hide H a, fun _ => none, none, fun _ _ _ => False, 0, fun _ => False⟩
theorem tk_z {X : Cx} {H : Hp} {a : Addr} : Tk X (mkZ H a) := L2N.Takes.imp takesN0 fun _ _ _ _ h => h.2
theorem env_init {K : KW} {H : Hp} {a : Addr} {σ : St} {n di : Nat} {c : Int} (hn : σ.length = n) (hd : di < n) (ha : H a = some (.lst [.int c, .int 0])) (hs : σ[di]? = some (some (.ref a))) (ht : LamX.Tabs TBS H) : EnvR K (mkZ H a) H (fun _ => none) σ (init n di c) := by
  have f : ∀ {i : Nat} {t : Sl}, (init n di c)[i]? = some t → (i = di ∧ t = .ow (.list [.int c, .int 0])) ∨ t = .no := fun {i t} h => by
    unfold init at h
    rcases getElem_set_some h with ⟨e1, e2, _⟩ | ⟨_, e2⟩
    · exact .inl ⟨e1.symm, e2.symm⟩
    · rw [List.getElem?_replicate] at e2
      split at e2
      · exact .inr (Option.some.inj e2).symm
      · cases e2
  refine ⟨by simp [init, hn], .of hide_same (fun _ _ h => h) (fun _ _ h => (by cases h)) (fun _ h _ => h), fun i d h => ?_, fun i d h => ?_, fun i j b d e h1 h2 _ _ => ?_, (fun b h => by cases h), ⟨tabs_hide (fun x e => by rw [ha] at e; cases e; exact plain_lst) ht, fun _ _ => rfl⟩, ObE.non fun i o h => by
    rcases f h with ⟨_, z⟩ | z <;> cases z⟩
  · rcases f h with ⟨_, z⟩ | z <;> cases z
  · rcases f h with ⟨rfl, z⟩ | z
    · cases z
      exact ⟨a, hs, rfl, hide_eq, _, ha, .cons (.int c) (.cons (.int 0) .nil)⟩
    · cases z
  · rcases f h1 with ⟨rfl, _⟩ | z
    · rcases f h2 with ⟨rfl, _⟩ | z
      · rfl
      · cases z
    · cases z
end DL
set_option Elab.async false
set_option linter.all false
set_option maxRecDepth 100000
set_option maxHeartbeats 1000000
namespace DL
open PySem PySem.Spec PyProof.Rows L2
variable [TabCtx]
def tBody (K : KW) (b : SM) : TS := fun D σ H => ∃ a, tS K (mkZ H a) b D σ H
theorem pss_body {X : Cx} {body : List Stmt} {b : SM} (h : ∀ H a, PMSs X (mkZ H a) body b) : PSs X body (tBody X.kw b) := ⟨fun pins s σ H D i ⟨a, g⟩ => (h H a).run pins s σ H D i g⟩
def t_law (K : KW) (hi : Int) (di : Nat) (b : SM) : TS := tSeq (tFor (iList K (tCallS (spRounds K) (fun _ _ _ _ => False) (tCons (tVar 0) (tCons (tC (.int hi)) tNil)))) (gName di) (tBody K b)) (tRet (tC (.bl true)))
theorem pure_law {K : KW} {hi : Int} {di : Nat} {b : SM} {N : List Str} (hd : di < N.length) (h0 : 0 ≤ hi) (h1 : hi < 1000) (hb : ∀ c : Int, ∃ ρ', b (init N.length di c) = .nx ρ' ∧ ρ'.length = N.length) (vs : List L2.V) (H : Hp) (Q : VK) (E : XK) (h : spLaw K vs H Q E) (hl0 : ∀ v, (L2.start N [v])[0]? = some (some v)) (hl : ∀ v, (L2.start N [v]).length = N.length) :
    t_law K hi di b { nx := fun _ H' => Q .non H', rt := Q } (L2.start N vs) H := by
  obtain ⟨ht, a, ns, rfl, hS, hm, q⟩ := h
  refine ⟨.ref a, hl0 _, a, ns, hi, rfl, hS, h0, h1, by omega, fun H1 p as s1 r1 => ⟨p, rfl, ⟨_, .inl (.inl r1.1)⟩, ?_⟩⟩
  obtain ⟨r1, r2, r3, r4, r5⟩ := r1
  refine for_list (xs := as.map V.ref) (fun i σ H' => (σ.length = N.length ∧ LamX.Tabs TBS H') ∧ H' p = some (.lst (as.map V.ref)) ∧ ∀ (j : Nat) (a : Addr) (c : Int), i ≤ j → as[j]? = some a → (roundsI ns hi)[j]? = some c → H' a = some (.lst [.int c, .int 0])) ⟨⟨hl _, ht.ext s1⟩, r1, fun j a c _ => r5 j a c⟩ (fun i σ H' _ h => .inl (.inl h.2.1)) (fun i x σ H' hx hP => ?_) fun σ H' _ => q H'
  obtain ⟨⟨p1, pt⟩, p2, p3⟩ := hP
  rw [List.getElem?_map] at hx
  obtain ⟨ai, hai, rfl⟩ := Option.map_eq_some_iff.mp hx
  have hil : i < as.length := (List.getElem?_eq_some_iff.mp hai).1
  have hc : (roundsI ns hi)[i]? = some ((roundsI ns hi)[i]'(by omega)) := List.getElem?_eq_getElem _
  obtain ⟨ρ', e1, e2⟩ := hb ((roundsI ns hi)[i]'(by omega))
  refine ⟨ai, fun _ => none, init N.length di ((roundsI ns hi)[i]'(by omega)), env_init (by rw [List.length_set]; exact p1) hd (p3 i ai _ (Nat.le_refl i) hai hc) (by rw [List.getElem?_set_self (by omega)]) pt, ?_⟩
  rw [e1]
  intro σ' H2 V' E' _
  have keep : ∀ b o, b ≠ ai → H' b = some o → nT o → H2 b = some o := fun b o nb e nt => E'.ext.h b o (by show hide H' ai b = some o; unfold hide; rw [if_neg nb]; exact e) nt
  refine ⟨⟨E'.len.trans e2, E'.tabs.1⟩, keep _ _ (fun z => r4 (by rw [z]; exact List.mem_of_getElem? hai)) p2 plain_lst.t, fun j b c hj hbj hcj => keep _ _ (fun z => ?_) (p3 j b c (by omega) hbj hcj) plain_lst.t⟩
  subst z
  have := (List.getElem?_inj hil r3).mp (hai.trans hbj.symm)
  omega
/-- an error's carrier, at any world -/
def CXE (P : Program) : CXT := fun outer H s E e s' => ∃ w, L2N.CX P w outer H s E e s'
theorem cxe_no {P : Program} {H : Hp} {s : Shared} {e : Value} {s' : Shared} (h : CXE P [] H s (fun _ _ _ => False) e s') : False := by
  obtain ⟨w, a, B, H', cls, d, h⟩ := h
  exact h.2.2.2.2.2.2.2
end DL
set_option Elab.async false
set_option linter.all false
set_option maxRecDepth 100000
set_option maxHeartbeats 1000000
namespace DL
open PySem PySem.Spec PyProof.Rows L2
variable [TabCtx]
mutual
inductive NAt (H : Hp) : NestedKey → L2.V → Prop
  | non : NAt H .none .non
  | bl (b : Bool) : NAt H (.num (if b = true then 1 else 0)) (.bl b)
  | int (i : Int) : NAt H (.num i) (.int i)
  | str (x : Str) : NAt H (.text x) (.str x)
  | tup {b : Addr} {ks : List NestedKey} {vs : List L2.V} : H b = some (.tup vs) → NAts H ks vs → NAt H (.tup ks) (.ref b)
inductive NAts (H : Hp) : List NestedKey → List L2.V → Prop
  | nil : NAts H [] []
  | cons {k : NestedKey} {v : L2.V} {ks : List NestedKey} {vs : List L2.V} : NAt H k v → NAts H ks vs → NAts H (k :: ks) (v :: vs)
end
mutual
theorem Rep.key {K : KW} {V H : Hp} (s : Same V H) : ∀ {v : L2.V} {d : PyData} {k : NestedKey}, Rep K V v d → nkey d = some k → NAt H k v
  | _, _, _, .non, h => by rw [nkey] at h; cases h; exact .non
  | _, _, _, .bl b, h => by rw [nkey] at h; cases h; exact .bl b
  | _, _, _, .int i, h => by rw [nkey] at h; cases h; exact .int i
  | _, _, _, .str x, h => by rw [nkey] at h; cases h; exact .str x
  | _, _, _, .lst _ _, h => by rw [nkey] at h; cases h
  | _, _, _, .dk _ _ _, h => by rw [nkey] at h; cases h
  | _, _, _, .dt _ _, h => by rw [nkey] at h; cases h
  | _, _, _, .tup ha r, h => by
    rw [nkey] at h
    obtain ⟨ks, h1, h2⟩ := Option.map_eq_some_iff.mp h
    subst h2
    exact .tup (s _ _ ha) (RepL.keys s r h1)
theorem RepL.keys {K : KW} {V H : Hp} (s : Same V H) : ∀ {vs : List L2.V} {ds : List PyData} {ks : List NestedKey}, RepL K V vs ds → nkeys ds = some ks → NAts H ks vs
  | _, _, _, .nil, h => by rw [nkeys] at h; cases h; exact .nil
  | _, _, _, .cons r t, h => by
    rw [nkeys] at h
    obtain ⟨k, h1, h2⟩ := Option.bind_eq_some_iff.mp h
    obtain ⟨ks, h3, h4⟩ := Option.map_eq_some_iff.mp h2
    subst h4
    exact .cons (Rep.key s r h1) (RepL.keys s t h3)
end
mutual
theorem NAt.is {P : Program} {w : World} {H : Hp} {h : Heap} (ok : HOk P w H h) : ∀ {k : NestedKey} {v : L2.V} {u : Value}, NAt H k v → RelV v u → NestedIs h k u
  | _, _, _, .non, r => by cases (show _ = Value.none from r); exact .none
  | _, _, _, .bl b, r => by cases (show _ = Value.bool b from r); exact .bool rfl
  | _, _, _, .int i, r => by obtain ⟨t, rfl⟩ := r; exact .int i t
  | _, _, _, .str x, r => by obtain ⟨t, rfl⟩ := r; exact .text x t
  | _, _, _, .tup (b := b) (vs := vs) ha q, r => by
    cases (show _ = Value.ref b from r)
    obtain ⟨_, its, rv, o, h1, h2, n, h3⟩ := (show ObjOk P w H h b (.tup vs) from ok b _ ha)
    exact .tup h1 h2 h3 (by simpa using NAts.is ok q rv)
theorem NAts.is {P : Program} {w : World} {H : Hp} {h : Heap} (ok : HOk P w H h) : ∀ {ks : List NestedKey} {vs : List L2.V} {us : List Value}, NAts H ks vs → Vals vs us → NestedAll h ks us
  | _, _, _, .nil, r => by cases r; exact .nil
  | _, _, _, .cons q t, r => by
    cases r with
    | cons r1 r2 => exact .cons (NAt.is ok q r1) (NAts.is ok t r2)
end
def KeysAt (H : Hp) (xs : List (NestedKey × Addr × L2.V)) : Prop := ∀ x ∈ xs, NAt H x.1 (.ref x.2.1) ∧ x.1.depth ≤ 8
theorem RepT.keysAt {K : KW} {V H : Hp} (s : Same V H) : ∀ {xs : List (NestedKey × Addr × L2.V)} {ps : List (PyData × PyData)}, RepT K V xs ps → KeysAt H xs
  | _, _, .nil => fun x hx => nomatch hx
  | _, _, .cons q n z r t => fun x hx => by
    rcases List.mem_cons.mp hx with e | e
    · subst e; exact ⟨q.key s n, z⟩
    · exact RepT.keysAt s t x e
def vx (xs : List (NestedKey × Addr × L2.V)) : List (NestedKey × L2.V) := xs.map fun x => (x.1, x.2.2)
abbrev PX : List (NestedKey × Addr × L2.V) → List (NestedKey × Addr × Value) → Prop := Paired fun (x : NestedKey × Addr × L2.V) (u : NestedKey × Addr × Value) => x.1 = u.1 ∧ x.2.1 = u.2.1 ∧ RelV x.2.2 u.2.2
theorem PX.val {xs : List (NestedKey × Addr × L2.V)} {us : List (NestedKey × Addr × Value)} (r : PX xs us) (k : NestedKey) : RelO (valV (vx xs) k) ((atKey us k).map (·.2)) := by
  induction r with
  | nil => exact True.intro
  | @cons p q ps qs h t ih =>
    obtain ⟨h1, _, h2⟩ := h
    by_cases e : p.1 = k
    · have e' : q.1 = k := h1.symm.trans e
      have b : atKey (q :: qs) k = some q.2 := by simp [atKey, List.find?_cons, e']
      have a : valV (vx (p :: ps)) k = some p.2.2 := valV_pos (p := (p.1, p.2.2)) e
      rw [a, b]; exact h2
    · have e' : ¬ q.1 = k := fun z => e (h1.trans z)
      have b : atKey (q :: qs) k = atKey qs k := by simp [atKey, List.find?_cons, e']
      have a : valV (vx (p :: ps)) k = valV (vx ps) k := valV_neg (p := (p.1, p.2.2)) e
      rw [a, b]; exact ih
/-- in its place, or at the end -/
def putX (xs : List (NestedKey × Addr × L2.V)) (k : NestedKey) (b : Addr) (v : L2.V) : List (NestedKey × Addr × L2.V) :=
  if (xs.any fun x => decide (x.1 = k)) = true then xs.map (fun x => if x.1 = k then (x.1, x.2.1, v) else x) else xs ++ [(k, b, v)]
theorem PX.any {xs : List (NestedKey × Addr × L2.V)} {us : List (NestedKey × Addr × Value)} (r : PX xs us) (k : NestedKey) : (xs.any fun x => decide (x.1 = k)) = (atKey us k).isSome := by
  induction r with
  | nil => rfl
  | @cons p q ps qs h t ih =>
    rw [List.any_cons]
    by_cases e : p.1 = k
    · have e' : q.1 = k := h.1.symm.trans e
      simp [atKey, List.find?_cons, e', e]
    · have e' : ¬ q.1 = k := fun z => e (h.1.trans z)
      have b : atKey (q :: qs) k = atKey qs k := by simp [atKey, List.find?_cons, e']
      rw [b, decide_eq_false e, Bool.false_or]; exact ih
theorem PX.repl {xs : List (NestedKey × Addr × L2.V)} {us : List (NestedKey × Addr × Value)} (r : PX xs us) (k : NestedKey) {y : L2.V} {u : Value} (ry : RelV y u) :
    PX (xs.map fun x => if x.1 = k then (x.1, x.2.1, y) else x) (us.map (putAt k u)) := by
  induction r with
  | nil => exact .nil
  | @cons p q ps qs h t ih =>
    rw [List.map_cons, List.map_cons]
    refine .cons ?_ ih
    obtain ⟨h1, h2, h3⟩ := h
    unfold putAt
    by_cases e : p.1 = k
    · rw [if_pos e, if_pos (h1.symm.trans e)]; exact ⟨h1, h2, ry⟩
    · rw [if_neg e, if_neg (fun z => e (h1.trans z))]; exact ⟨h1, h2, h3⟩
theorem PX.put {xs : List (NestedKey × Addr × L2.V)} {us : List (NestedKey × Addr × Value)} (r : PX xs us) (k : NestedKey) {b : Addr} {y : L2.V} {u : Value} (ry : RelV y u) : PX (putX xs k b y) (storedH us k b u) := by
  unfold putX storedH
  rw [r.any k]
  by_cases q : (atKey us k).isSome = true
  · rw [if_pos q, if_pos q]; exact r.repl k ry
  · rw [if_neg q, if_neg q]; exact Paired.snoc r ⟨rfl, rfl, ry⟩
theorem PX.keys {xs : List (NestedKey × Addr × L2.V)} {us : List (NestedKey × Addr × Value)} (r : PX xs us) : xs.map (·.1) = us.map (·.1) := by
  induction r with
  | nil => rfl
  | cons h t ih => rw [List.map_cons, List.map_cons, ih, h.1]
theorem length_putX (xs : List (NestedKey × Addr × L2.V)) (k : NestedKey) (b : Addr) (v : L2.V) : (putX xs k b v).length ≤ xs.length + 1 := by
  unfold putX
  split
  · rw [List.length_map]; omega
  · rw [List.length_append, List.length_cons, List.length_nil]; omega
theorem PX.mem {xs : List (NestedKey × Addr × L2.V)} {us : List (NestedKey × Addr × Value)} (r : PX xs us) : ∀ u ∈ us, ∃ x ∈ xs, x.1 = u.1 ∧ x.2.1 = u.2.1 := by
  induction r with
  | nil => exact fun u hu => nomatch hu
  | @cons p q ps qs h t ih =>
    intro u hu
    rcases List.mem_cons.mp hu with e | e
    · subst e; exact ⟨p, List.mem_cons_self, h.1, h.2.1⟩
    · obtain ⟨x, h1, h2⟩ := ih u e; exact ⟨x, List.mem_cons_of_mem _ h1, h2⟩
section
variable {P : Program} {w : World} {H : Hp} {h : Heap} {a : Addr}
theorem dx_of {xs : List (NestedKey × Addr × L2.V)} {ep : Nat} (ok : HOk P w H h) (e : H a = some (dX w a xs ep)) (ks : KeysAt H xs) : xs.length ≤ sizeLine ∧ (a == sysModules) = false ∧ ∃ us, PX xs us ∧ h.DictOfH (nestedKind P w) a us := by
  obtain ⟨⟨z, y, nd, us, o, es, r, h1, h2, h3, h4⟩, _, _⟩ := (show ObjOk P w H h a (dX w a xs ep) from ok a _ e)
  refine ⟨z, y, us, r, o, es, ep, h1, h2, h3, h4, fun u hu => ?_, by rw [← PX.keys r]; exact nd⟩
  obtain ⟨x, hx, e1, e2⟩ := PX.mem r u hu
  obtain ⟨n, dp⟩ := ks x hx
  rw [← e1, ← e2]
  exact ⟨n.is ok rfl, dp⟩
theorem dx_nil {ep : Nat} (ok : HOk P w H h) (e : H a = some (dX w a [] ep)) : (a == sysModules) = false ∧ h.DictOf (mixKind P w) a [] := by
  obtain ⟨⟨z, y, nd, us, o, es, r, h1, h2, h3, h4⟩, _, _⟩ := (show ObjOk P w H h a (dX w a [] ep) from ok a _ e)
  cases r
  have he : es = #[] := by
    have : es.toList = [] := h4
    exact Array.toList_inj.mp (by simpa using this)
  subst he
  exact ⟨y, o, #[], ep, h1, h2, h3, fun e he => by simp at he, .nil, List.nodup_nil⟩
end
def isTupD : PyData → Bool
  | .tuple _ => true
  | _ => false
def plainD : PyData → Bool
  | .int _ => true
  | .str _ => true
  | _ => false
def deepD (k : PyData) : Bool := match nkey k with
  | some n => decide (n.depth ≤ 8)
  | none => false
def keyEqD (a b : PyData) : Bool := decide (nkey a = nkey b)
def dlook (ps : List (PyData × PyData)) (k : PyData) : Option PyData := (ps.find? fun p => keyEqD p.1 k).map (·.2)
def keyOk (ps : List (PyData × PyData)) (k : PyData) : Bool := (plainD k && ps.all fun p => plainD p.1) || (isTupD k && deepD k && ps.all fun p => isTupD p.1)
def dput (ps : List (PyData × PyData)) (k v : PyData) : List (PyData × PyData) := if (ps.any fun p => keyEqD p.1 k) = true then ps.map (fun p => if keyEqD p.1 k = true then (p.1, v) else p) else ps ++ [(k, v)]
/-- what stands at y in the dict at a -/
def DGX (w : World) (H : Hp) (a : Addr) (y : L2.V) (r : Option L2.V) : Prop :=
  (∃ kvs k, L2.Rd H a (.dK kvs) ∧ y = kV k ∧ r = valV kvs k) ∨
  (∃ xs ep k b, H a = some (dX w a xs ep) ∧ KeysAt H xs ∧ y = .ref b ∧ NAt H k (.ref b) ∧ k.depth ≤ 8 ∧ r = valV (vx xs) k) ∨
  ∃ ep k, H a = some (dX w a [] ep) ∧ y = kV k ∧ r = none
theorem keyD_nkey (k : Key) : nkey (keyD k) = some (match k with | .inl i => .num i | .inr x => .text x) := by
  cases k with
  | inl i => show nkey (.int i) = _; rw [nkey]
  | inr x => show nkey (.str x) = _; rw [nkey]
theorem keyEq_keyD (a b : Key) : keyEqD (keyD a) (keyD b) = decide (a = b) := by
  unfold keyEqD
  rw [keyD_nkey, keyD_nkey]
  cases a with
  | inl i => cases b with
    | inl j =>
      by_cases e : i = j
      · subst e; simp
      · rw [decide_eq_false (fun z => e (by injection z with z; injection z)), decide_eq_false (fun z => e (Sum.inl.inj z))]
    | inr y => rw [decide_eq_false (fun z => by injection z with z; cases z), decide_eq_false (fun z => nomatch z)]
  | inr x => cases b with
    | inl j => rw [decide_eq_false (fun z => by injection z with z; cases z), decide_eq_false (fun z => nomatch z)]
    | inr y =>
      by_cases e : x = y
      · subst e; simp
      · rw [decide_eq_false (fun z => e (by injection z with z; injection z)), decide_eq_false (fun z => e (Sum.inr.inj z))]
theorem plain_key {K : KW} {V : Hp} {y : L2.V} {k : PyData} (r : Rep K V y k) (h : plainD k = true) : ∃ q, k = keyD q ∧ y = kV q := by
  cases r with
  | int i => exact ⟨.inl i, rfl, rfl⟩
  | str x => exact ⟨.inr x, rfl, rfl⟩
  | _ => cases h
theorem RepK.look {K : KW} {V : Hp} (q : Key) : ∀ {kvs : List (Key × L2.V)} {ps : List (PyData × PyData)}, RepK K V kvs ps → (match dlook ps (keyD q) with | some d => ∃ v, valV kvs q = some v ∧ Rep K V v d | none => valV kvs q = none)
  | _, _, .nil => rfl
  | _, _, .cons (k := k) (v := v) (kvs := kvs) (d := d) (ps := ps) r t => by
    by_cases e : k = q
    · have a : dlook ((keyD k, d) :: ps) (keyD q) = some d := by
        unfold dlook; rw [List.find?_cons_of_pos (by show keyEqD (keyD k) (keyD q) = true; rw [keyEq_keyD, decide_eq_true e])]; rfl
      rw [a]
      exact ⟨v, valV_pos (p := (k, v)) e, r⟩
    · have a : dlook ((keyD k, d) :: ps) (keyD q) = dlook ps (keyD q) := by
        unfold dlook; rw [List.find?_cons_of_neg (by show ¬ keyEqD (keyD k) (keyD q) = true; rw [keyEq_keyD, decide_eq_false e]; exact Bool.false_ne_true)]
      have b : valV ((k, v) :: kvs) q = valV kvs q := valV_neg (p := (k, v)) e
      rw [a, b]
      exact RepK.look q t
theorem RepT.look {K : KW} {V : Hp} {kd : PyData} {q : NestedKey} (hq : nkey kd = some q) : ∀ {xs : List (NestedKey × Addr × L2.V)} {ps : List (PyData × PyData)}, RepT K V xs ps → (match dlook ps kd with | some d => ∃ v, valV (vx xs) q = some v ∧ Rep K V v d | none => valV (vx xs) q = none)
  | _, _, .nil => rfl
  | _, _, .cons (k := k) (b := b) (v := v) (xs := xs) (dk := dk) (d := d) (ps := ps) _ n _ r t => by
    have ek : keyEqD dk kd = decide (k = q) := by
      unfold keyEqD
      rw [n, hq]
      by_cases e : k = q
      · subst e; simp
      · rw [decide_eq_false e, decide_eq_false (fun z => e (Option.some.inj z))]
    by_cases e : k = q
    · have a : dlook ((dk, d) :: ps) kd = some d := by
        unfold dlook; rw [List.find?_cons_of_pos (by show keyEqD dk kd = true; rw [ek, decide_eq_true e])]; rfl
      rw [a]
      exact ⟨v, valV_pos (p := (k, v)) e, r⟩
    · have a : dlook ((dk, d) :: ps) kd = dlook ps kd := by
        unfold dlook; rw [List.find?_cons_of_neg (by show ¬ keyEqD dk kd = true; rw [ek, decide_eq_false e]; exact Bool.false_ne_true)]
      have c : valV (vx ((k, b, v) :: xs)) q = valV (vx xs) q := valV_neg (p := (k, v)) e
      rw [a, c]
      exact RepT.look hq t
theorem RepT.tups {K : KW} {V : Hp} : ∀ {xs : List (NestedKey × Addr × L2.V)} {ps : List (PyData × PyData)}, RepT K V xs ps → (ps.all fun p => plainD p.1) = true → xs = []
  | _, _, .nil, _ => rfl
  | _, _, .cons q n _ _ _, h => by
    rw [List.all_cons, Bool.and_eq_true] at h
    have h := h.1
    cases q <;> cases h
theorem RepK.plains {K : KW} {V : Hp} {kvs : List (Key × L2.V)} {ps : List (PyData × PyData)} (r : RepK K V kvs ps) (h : (ps.all fun p => isTupD p.1) = true) : ps = [] := by
  cases r with
  | nil => rfl
  | @cons k _ _ _ _ _ _ =>
    rw [List.all_cons, Bool.and_eq_true] at h
    have h := h.1
    cases k <;> cases h
/-- a key that is a tuple -/
theorem tup_key {K : KW} {V H : Hp} (s : Same V H) {y : L2.V} {k : PyData} (r : Rep K V y k) (h : isTupD k = true) (hd : deepD k = true) : ∃ q b, nkey k = some q ∧ y = .ref b ∧ NAt H q (.ref b) ∧ q.depth ≤ 8 := by
  unfold deepD at hd
  cases e : nkey k with
  | none => rw [e] at hd; cases hd
  | some q =>
    rw [e] at hd
    have nq := r.key s e
    cases r with
    | @tup b _ _ _ _ => exact ⟨q, b, rfl, rfl, nq, of_decide_eq_true hd⟩
    | _ => cases h
theorem Rep.look {K : KW} {V H : Hp} (s : Same V H) {a : Addr} {y : L2.V} {ps : List (PyData × PyData)} {k : PyData} (r : Rep K V (.ref a) (.dict ps)) (ry : Rep K V y k) (ok : keyOk ps k = true) : ∃ o, DGX K.w H a y o ∧ (match dlook ps k with | some d => ∃ v, o = some v ∧ Rep K V v d | none => o = none) := by
  rcases Bool.or_eq_true_iff.mp ok with ok | ok
  · obtain ⟨o1, o2⟩ := Bool.and_eq_true_iff.mp ok
    obtain ⟨q, rfl, rfl⟩ := plain_key ry o1
    cases r with
    | @dk _ kvs _ h rk n =>
      refine ⟨valV kvs q, .inl ⟨kvs, q, rd_same s h, rfl, rfl⟩, ?_⟩
      exact RepK.look q rk
    | @dt _ xs ep _ h rt =>
      have e := rt.tups o2
      subst e
      cases rt
      exact ⟨none, .inr (.inr ⟨ep, q, s _ _ h, rfl, rfl⟩), rfl⟩
  · obtain ⟨o12, o3⟩ := Bool.and_eq_true_iff.mp ok
    obtain ⟨o1, o2⟩ := Bool.and_eq_true_iff.mp o12
    obtain ⟨q, b, e1, rfl, nq, dq⟩ := tup_key s ry o1 o2
    cases r with
    | @dk _ kvs _ h rk n => exact absurd (rk.plains o3) n
    | @dt _ xs ep _ h rt => exact ⟨valV (vx xs) q, .inr (.inl ⟨xs, ep, q, b, s _ _ h, rt.keysAt s, rfl, nq, dq, rfl⟩), RepT.look e1 rt⟩
end DL
set_option Elab.async false
set_option linter.all false
set_option maxRecDepth 100000
set_option maxHeartbeats 1000000
namespace DL
open PySem PySem.Spec PyProof.Rows L2
variable [TabCtx]
section
variable {X : Cx} {pins : List (Addr × Obj)} {σ : St} {H : Hp} {s : Shared} {a : Addr} {y v : L2.V} {u r : Value} {o : Option L2.V} {A : Around} {E : Value → Shared → Prop}
theorem room8 (hu : A.units + 10 < cLine) : (nestedKind X.prog X.w).room A.in1 := by
  show A.units + 1 + 8 < cLine
  omega
theorem x_getItem {Q : Value → Shared → Prop} (hu : A.units + 10 < cLine) (I : L2.Inv X pins σ H s) (g : DGX X.w H a y (some v)) (ry : L2.RelV y u) (h : ∀ w' s', L2.Inv X pins σ H s' → L2.RelV v w' → Q w' s') :
    wpAny (model X.prog X.w) A (getItem (.ref a) u) Q E s := by
  rcases g with ⟨kvs, k, e, ey, l⟩ | ⟨xs, ep0, k, b, e, ks, ey, eb, dp, l⟩ | ⟨ep0, k, e, ey, l⟩
  · exact d_getItem (by omega) I (.inl ⟨kvs, k, e, ey, l⟩) ry h
  · subst ey
    cases (show u = Value.ref b from ry)
    obtain ⟨z, hd, us, rel, dd⟩ := dx_of I.hok e ks
    obtain ⟨w', hw, rw'⟩ := RelO.some_of (v := v) (o := (atKey us k).map (·.2)) (by rw [l]; exact PX.val rel k)
    obtain ⟨p, hp, hp2⟩ := Option.map_eq_some_iff.mp hw
    refine wpAny_getItem_heap (room8 hu) ⟨eb.is I.hok rfl, dp⟩ dd hp ?_
    rw [hp2]
    exact h w' _ (I.tok _) rw'
  · cases l
theorem x_notIn {Q : Value → Shared → Prop} (hu : A.units + 10 < cLine) (I : L2.Inv X pins σ H s) (g : DGX X.w H a y o) (ry : L2.RelV y u) (h : ∀ s', L2.Inv X pins σ H s' → Q (.bool (!o.isSome)) s') :
    wpAny (model X.prog X.w) A (compareOp .NotIn u (.ref a)) Q E s := by
  rcases g with ⟨kvs, k, e, ey, l⟩ | ⟨xs, ep0, k, b, e, ks, ey, eb, dp, l⟩ | ⟨ep0, k, e, ey, l⟩
  · exact d_notIn (by omega) I (.inl ⟨kvs, k, e, ey, l⟩) ry h
  · subst ey
    cases (show u = Value.ref b from ry)
    obtain ⟨z, hd, us, rel, dd⟩ := dx_of I.hok e ks
    refine wpAny_notIn_heap (room8 hu) ⟨eb.is I.hok rfl, dp⟩ hd dd ?_
    have q := (PX.val rel k).isSome_eq
    rw [Option.isSome_map] at q
    rw [← q, ← l]
    exact h _ (I.tok _)
  · subst ey l
    obtain ⟨hd, dd⟩ := dx_nil I.hok e
    refine wpAny_notIn_of (kV_is ry) hd dd.mapOf ?_
    exact h _ (I.tok _)
theorem x_get2 {d : L2.V} {Q : Value → Shared → Prop} (hu : A.units + 10 < cLine) (I : L2.Inv X pins σ H s) (g : DGX X.w H a y o) (ry : L2.RelV y u) (rd : L2.RelV d r) (h : ∀ w' s', L2.Inv X pins σ H s' → L2.RelV (o.getD d) w' → Q w' s') :
    wpAny (model X.prog X.w) A (call (.builtin "dict.get") [.ref a, u, r]) Q E s := by
  rcases g with ⟨kvs, k, e, ey, l⟩ | ⟨xs, ep0, k, b, e, ks, ey, eb, dp, l⟩ | ⟨ep0, k, e, ey, l⟩
  · exact d_get2 (by omega) I (.inl ⟨kvs, k, e, ey, l⟩) ry rd h
  · subst ey
    cases (show u = Value.ref b from ry)
    obtain ⟨z, hd, us, rel, dd⟩ := dx_of I.hok e ks
    refine call_meetsIn PySem.F.slot_dict_get dd.typeIs PySem.F.entry_dict_get (PySem.F.args_dict_get_3 _ _ _) (meetsH_dict_get_default (nestedKind X.prog X.w) a b hd r) ⟨room8 hu, k, us, ⟨eb.is I.hok rfl, dp⟩, dd, h _ _ (I.tok _) ?_⟩
    rw [l]
    exact (PX.val rel k).getD rd
  · subst ey l
    obtain ⟨hd, dd⟩ := dx_nil I.hok e
    exact call_meetsIn PySem.F.slot_dict_get dd.typeIs PySem.F.entry_dict_get (PySem.F.args_dict_get_3 _ _ _) (meets_dict_get_default (mixKind X.prog X.w) a (kV_is ry) hd r) ⟨_, dd.mapOf, h _ _ (I.tok _) rd⟩
/-- a is a dict -/
def IsDX (w : World) (H : Hp) (a : Addr) : Prop := (∃ kvs, L2.Rd H a (.dK kvs)) ∨ ∃ xs ep, H a = some (dX w a xs ep)
theorem isDX_at (I : L2.Inv X pins σ H s) (d : IsDX X.w H a) :
    s.TypeIs (.ref a) "dict" ∧ (∀ b, Value.ref a = .ref b → ∃ ob, s.heap.get? b = some ob ∧ ob.dict = none) ∧ (a == sysModules) = false := by
  rcases d with ⟨kvs, e⟩ | ⟨xs, ep, e⟩
  · exact isD_at I (.inl ⟨kvs, e⟩)
  · obtain ⟨⟨z, y, nd, us, o, es, r, h1, h2, h3, h4⟩, _, _⟩ := (show ObjOk X.prog X.w H s.heap a (dX X.w a xs ep) from I.hok a _ e)
    refine ⟨⟨o, h1, h2.1⟩, fun b q => ?_, y⟩
    cases q
    exact ⟨o, h1, h2.2.1⟩
theorem xok_stable {w : World} {xs : List (NestedKey × Addr × L2.V)} {ep : Nat} : ∀ h1 h2 : Heap, XOk w a xs ep h1 → (∀ o, h1.get? a = some o → h2.get? a = some o) → XOk w a xs ep h2 := by
  rintro h1 h2 ⟨z, y, nd, us, o, es, r, e1, e2, e3, e4⟩ k
  exact ⟨z, y, nd, us, o, es, r, k _ e1, e2, e3, e4⟩
theorem dx_new {P : Program} {w : World} {h' : Heap} {xs : List (NestedKey × Addr × L2.V)} {us : List (NestedKey × Addr × Value)} (z : xs.length ≤ sizeLine) (hd : (a == sysModules) = false) (rel : PX xs us) (dd : h'.DictOfH (nestedKind P w) a us) :
    ∃ ep, ∀ H' : Hp, ObjOk P w H' h' a (dX w a xs ep) := by
  obtain ⟨o, es, ep, h1, h2, h3, h4, _, h5⟩ := dd
  exact ⟨ep, fun H' => ⟨⟨z, hd, by rw [PX.keys rel]; exact h5, us, o, es, rel, h1, h2, h3, h4⟩, ⟨o, h1⟩, xok_stable⟩⟩
/-- the heap behind a[y] = v -/
def DPX (w : World) (H : Hp) (a : Addr) (y v : L2.V) (H' : Nat → Hp) : Prop :=
  (∃ kvs k, H a = some (.dK kvs) ∧ y = kV k ∧ kvs.length < sizeLine ∧ H' = fun _ => upd H a (.dK (putK kvs k v))) ∨
  (∃ xs ep k b, H a = some (dX w a xs ep) ∧ KeysAt H xs ∧ y = .ref b ∧ NAt H k (.ref b) ∧ k.depth ≤ 8 ∧ xs.length < sizeLine ∧ H' = fun ep => upd H a (dX w a (putX xs k b v) ep)) ∨
  ∃ ep k, H a = some (dX w a [] ep) ∧ y = kV k ∧ H' = fun _ => upd H a (.dK [(k, v)])
theorem x_setItem {H' : Nat → Hp} {Q : Unit → Shared → Prop} (hu : A.units + 10 < cLine) (I : L2.Inv X pins σ H s) (g : DPX X.w H a y v H') (ry : L2.RelV y u) (rv : L2.RelV v r) (h : ∀ ep s', L2.Inv X pins σ (H' ep) s' → Q () s') :
    wpAny (model X.prog X.w) A (setItem (.ref a) u r) Q E s := by
  rcases g with ⟨kvs, k, e, ey, l, eH⟩ | ⟨xs, ep0, k, b, e, ks, ey, eb, dp, l, eH⟩ | ⟨ep0, k, e, ey, eH⟩
  · exact d_setItem (by omega) I (.inl ⟨kvs, k, e, ey, l, rfl⟩) ry rv fun s' J => h 0 s' (by rw [eH]; exact J)
  · subst ey eH
    cases (show u = Value.ref b from ry)
    obtain ⟨z, hd, us, rel, dd⟩ := dx_of I.hok e ks
    have hz : us.length ≤ sizeLine := by rw [← Paired.length rel]; exact z
    have hl : (putX xs k b v).length ≤ sizeLine := by have := length_putX xs k b v; omega
    refine wpAny_setItem_heap (hsz := hz) (room8 hu) ⟨eb.is I.hok rfl, dp⟩ dd fun h' dd' hs => ?_
    obtain ⟨q, es, ep, hq, _⟩ := id dd'
    obtain ⟨ep1, ob1⟩ := dx_new hl hd (PX.put rel k rv) dd'
    exact h ep1 _ (d_write I (by rw [e]; exact True.intro) hs ⟨q, hq⟩ (ob1 _))
  · subst ey eH
    obtain ⟨hd, dd⟩ := dx_nil I.hok e
    refine wpAny_setItem_pairs (hsz := Nat.zero_le _) (kV_is ry) dd fun h' dd' hs => h 0 _ ?_
    have he : ∃ q, h'.get? a = some q := let ⟨q, _, _, hq, _⟩ := dd'; ⟨q, hq⟩
    exact d_write I (by rw [e]; exact True.intro) hs he (dk_new (by show 1 ≤ sizeLine; decide) hd (.cons ⟨rfl, rv⟩ .nil) dd')
theorem x_setdefault {d : L2.V} {Q : Value → Shared → Prop} (hu : A.units + 10 < cLine) (I : L2.Inv X pins σ H s) {xs : List (NestedKey × Addr × L2.V)} {k : NestedKey} {b : Addr} {ep : Nat} (e : H a = some (dX X.w a xs ep)) (ks : KeysAt H xs) (eb : NAt H k (.ref b)) (dp : k.depth ≤ 8) (l : xs.length < sizeLine) (rd : L2.RelV d r)
    (h1 : ∀ v, valV (vx xs) k = some v → ∀ w' s', L2.Inv X pins σ H s' → L2.RelV v w' → Q w' s') (h2 : valV (vx xs) k = none → ∀ ep s', L2.Inv X pins σ (upd H a (dX X.w a (putX xs k b d) ep)) s' → Q r s') :
    wpAny (model X.prog X.w) A (call (.builtin "dict.setdefault") [.ref a, .ref b, r]) Q E s := by
  obtain ⟨z, hd, us, rel, dd⟩ := dx_of I.hok e ks
  have hz : us.length ≤ sizeLine := by rw [← Paired.length rel]; exact z
  have hl : (putX xs k b d).length ≤ sizeLine := by have := length_putX xs k b d; omega
  have q := PX.val rel k
  refine call_setdefault_heap (hsz := hz) (room8 hu) ⟨eb.is I.hok rfl, dp⟩ hd dd (fun p hp => ?_) fun hn h' dd' hs => ?_
  · rw [hp] at q
    cases ev : valV (vx xs) k with
    | none => rw [ev] at q; exact False.elim q
    | some v => rw [ev] at q; exact h1 v ev _ _ (I.tok _) q
  · rw [hn] at q
    cases ev : valV (vx xs) k with
    | some v => rw [ev] at q; exact False.elim q
    | none =>
      obtain ⟨qq, es, ep, hq, _⟩ := id dd'
      obtain ⟨ep1, ob1⟩ := dx_new hl hd (PX.put rel k rd) dd'
      exact h2 ev ep1 _ (d_write I (by rw [e]; exact True.intro) hs ⟨qq, hq⟩ (ob1 _))
end
end DL
set_option Elab.async false
set_option linter.all false
set_option maxRecDepth 100000
set_option maxHeartbeats 1000000
namespace DL
open PySem PySem.Spec PyProof.Rows L2
variable [TabCtx]
def HidV (K : KW) (H0 V' H' : Hp) (v : L2.V) (d : PyData) : Prop := ∃ a, v = .ref a ∧ V' a = none ∧ H0 a = none ∧ OwnAt K V' H' a d
def GoalF (K : KW) (F : Fr) (σ : St) (ρ : Rho) (H V : Hp) (r : R (PyData × Rho)) (Q : VK) : Prop := match r with
  | .ok (d, ρ') => ∀ v H' V', Stp K F σ ρ ρ' H V H' V' → HidV K H V' H' v d → Q v H'
  | .exc c => ∀ H' V', Ext F.H0 F.V0 H' V' → F.W (.ref (He.ga K c)) σ H'
  | .bad => False
def GoalR (K : KW) (F : Fr) (σ : St) (H V : Hp) (Q : VK) : R PyData → Prop
  | .ok d => ∀ v H' V', Ext H V H' V' → HidV K H V' H' v d → Q v H'
  | .exc c => ∀ H' V', Ext F.H0 F.V0 H' V' → F.W (.ref (He.ga K c)) σ H'
  | .bad => False
def tMF (K : KW) (F : Fr) (f : M PyData) : TE := fun σ H Q => ∃ V ρ, EnvR K F H V σ ρ ∧ GoalF K F σ ρ H V (f ρ) Q
def PMF (X : Cx) (F : Fr) (e : Expr) (f : M PyData) : Prop := PE X e (tMF X.kw F f)
section
variable {K : KW} {F : Fr} {σ : St} {ρ ρ1 : Rho} {H V H1 V1 : Hp} {Q : VK}
theorem GoalF.after {r : R (PyData × Rho)} (st : Stp K F σ ρ ρ1 H V H1 V1) (g : GoalF K F σ ρ H V r Q) : GoalF K F σ ρ1 H1 V1 r Q := by
  cases r with
  | ok p =>
    intro v H' V' s hv
    obtain ⟨a, e, h1, h2, h3⟩ := hv
    refine g v H' V' (st.trans s) ⟨a, e, h1, ?_, h3⟩
    cases q : H a with
    | none => rfl
    | some o => exact absurd h2 (st.th a (by rw [q]; exact fun z => nomatch z))
  | exc c => exact g
  | bad => exact g
theorem GoalF.bind {α β : Type} {rep1 : Hp → β → α → Prop} {f : M α} {k : α → M PyData} {Q1 : β → Hp → Prop} (g : GoalF K F σ ρ H V (M.bind f k ρ) Q)
    (h : ∀ b a H' V' ρ', Stp K F σ ρ ρ' H V H' V' → rep1 V' b a → GoalF K F σ ρ' H' V' (k a ρ') Q → Q1 b H') : Goal K F σ ρ H V rep1 (f ρ) Q1 := by
  unfold M.bind at g
  cases e : f ρ with
  | ok p =>
    obtain ⟨a, ρ'⟩ := p
    rw [e] at g
    exact fun b H' V' st r => h b a H' V' ρ' st r (GoalF.after st g)
  | exc c => rw [e] at g; exact g
  | bad => rw [e] at g; exact g
theorem GoalF.opt {o : Option PyData} (E : EnvR K F H V σ ρ) (g : GoalF K F σ ρ H V (M.opt o ρ) Q) : ∃ z, o = some z ∧ ∀ v H' V', Ext H V H' V' → HidV K H V' H' v z → Q v H' := by
  cases o with
  | none => exact False.elim g
  | some z => exact ⟨z, rfl, fun v H' V' e r => g v H' V' (E.step e) r⟩
theorem GoalF.lift {m : R PyData} (E : EnvR K F H V σ ρ) (g : GoalF K F σ ρ H V (M.lift m ρ) Q) : GoalR K F σ H V Q m := by
  cases m with
  | ok d => exact fun v H' V' e r => g v H' V' (E.step e) r
  | exc c => exact g
  | bad => exact g
theorem GoalF.ex {f : M PyData} {k : PyData → SM} {D : Ends} {Q1 : VK} (g : GoalS K F V (exO f k ρ) D)
    (h : ∀ v d H' V' ρ', Stp K F σ ρ ρ' H V H' V' → HidV K H V' H' v d → GoalS K F V' (k d ρ') D → Q1 v H') : GoalF K F σ ρ H V (f ρ) Q1 := by
  unfold exO at g
  cases e : f ρ with
  | ok p =>
    obtain ⟨a, ρ'⟩ := p
    rw [e] at g
    exact fun b H' V' st r => h b a H' V' ρ' st r (GoalS.mono st.v g)
  | exc c => rw [e] at g; exact fun H' V' x => g σ H' V' x
  | bad => rw [e] at g; exact g
theorem Stp.notOwn (E : EnvR K F H V σ ρ) (st : Stp K F σ ρ ρ1 H V H1 V1) {a : Addr} (h : H a = none) : ¬ IsOwn σ ρ1 a := fun z => by
  obtain ⟨i, d, q1, q2⟩ := st.own a z
  obtain ⟨b, w1, w2, w3, w4⟩ := E.ow i d q1
  rw [q2] at w1
  cases w1
  obtain ⟨o, q5, _⟩ := w4.there
  rw [h] at q5
  cases q5
theorem OwnAt.show {a : Addr} {d : PyData} (o : OwnAt K V H a d) (hv : V a = none) : ∃ u, H a = some u ∧ Rep K (upd V a u) (.ref a) d := by
  have sv : ∀ u, Same V (upd V a u) := fun u => same_new hv
  cases d with
  | list ds => obtain ⟨vs, e, r⟩ := o; exact ⟨_, e, .lst upd_same (r.mono (sv _))⟩
  | dict ps =>
    rcases o with ⟨kvs, e, r, n⟩ | ⟨xs, ep, e, r⟩
    · exact ⟨_, e, .dk (.inl upd_same) (r.mono (sv _)) n⟩
    · exact ⟨_, e, .dt upd_same (r.mono (sv _))⟩
  | _ => exact o.elim
/-- a hidden thing comes to be seen -/
theorem Stp.show (E : EnvR K F H V σ ρ) (st : Stp K F σ ρ ρ1 H V H1 V1) {a : Addr} {u : HO} (h0 : H a = none) (h1 : V1 a = none) (h2 : H1 a = some u) : Stp K F σ ρ ρ1 H V H1 (upd V1 a u) := by
  have sv : Same V1 (upd V1 a u) := same_new h1
  refine ⟨st.env.show h2 h1 (E.ext.free h0) (st.notOwn E h0), st.v.trans sv, st.keep, st.own, st.shs, fun b q1 q2 => ?_, st.th⟩
  rw [upd_ne (fun z => q2 (by rw [z]; exact h0))]
  exact st.f b q1 q2
theorem EnvR.setHid (E : EnvR K F H V σ ρ) {i : Nat} {p : Addr} {d : PyData} (hv : V p = none) (h0 : F.H0 p = none) (hn : ¬ IsOwn σ ρ p) (r : OwnAt K V H p d) (hl : i ≠ F.ls ∨ F.lent = none) : EnvR K F H V (σ.set i (some (.ref p))) (ρ.set i (.ow d)) := by
  have hlen := E.len
  refine ⟨by simp [hlen], E.ext, fun j e h => ?_, fun j e h => ?_, fun j k a e e' h1 h2 h3 h4 => ?_, fun a ha => ?_, E.tab, E.ob.set fun _ z => nomatch z⟩
  · rcases getElem_set_some h with ⟨_, q, _⟩ | ⟨n, q⟩
    · cases q
    · rw [List.getElem?_set_ne n]; exact E.sh j e q
  · rcases getElem_set_some h with ⟨rfl, q, hi⟩ | ⟨n, q⟩
    · cases q
      exact ⟨p, List.getElem?_set_self (by omega), hv, h0, r⟩
    · rw [List.getElem?_set_ne n]; exact E.ow j e q
  · rcases getElem_set_some h1 with ⟨rfl, _, _⟩ | ⟨n1, q1⟩
    · rcases getElem_set_some h2 with ⟨rfl, _, _⟩ | ⟨n2, q2⟩
      · rfl
      · rcases getElem_set_some h3 with ⟨_, q3, _⟩ | ⟨n3, _⟩
        · rcases getElem_set_some h4 with ⟨z, _, _⟩ | ⟨_, q4⟩
          · exact absurd z n2
          · exact absurd ⟨k, _, q2, by rw [q4, ← q3]⟩ hn
        · exact absurd rfl n3
    · rcases getElem_set_some h2 with ⟨rfl, _, _⟩ | ⟨n2, q2⟩
      · rcases getElem_set_some h4 with ⟨_, q4, _⟩ | ⟨n3, _⟩
        · rcases getElem_set_some h3 with ⟨z, _, _⟩ | ⟨_, q3⟩
          · exact absurd z n1
          · exact absurd ⟨j, _, q1, by rw [q3, ← q4]⟩ hn
        · exact absurd rfl n3
      · rw [List.getElem?_set_ne n1] at h3
        rw [List.getElem?_set_ne n2] at h4
        exact E.dis j k a e e' q1 q2 h3 h4
  · rcases hl with hl | hl
    · rw [List.getElem?_set_ne hl]; exact E.lent a ha
    · rw [hl] at ha; cases ha
end
section
variable {X : Cx} {F : Fr} {e k : Expr} {es : List Expr} {fa fk : M PyData} {fs : M (List PyData)} {pos : Pos}
theorem PMF.pm (h : PMF X F e fa) : PM X F e fa := by
  refine PE.imp h fun σ H Q ⟨V, ρ, E, g⟩ => ⟨V, ρ, E, ?_⟩
  cases ef : fa ρ with
  | exc c => rw [ef] at g; exact g
  | bad => rw [ef] at g; exact g
  | ok pr =>
    obtain ⟨d, ρ'⟩ := pr
    rw [ef] at g
    intro v H' V' st hv
    obtain ⟨a, rfl, h1, h2, h3⟩ := hv
    obtain ⟨u, q1, q2⟩ := h3.show h1
    exact g _ H' _ (st.show E h2 h1 q1) q2
/-- x = e, e a new thing, x keeps it alone -/
def ownFO (i : Nat) (a : M PyData) : SM := exO a fun d ρ => .nx (ρ.set i (.ow d))
theorem pms_ownF (i : Nat) {x : Str} {pos' : Pos} (he : PMF X F e fa) (hN : X.N.Nodup) (hi : X.N[i]? = some x := by rfl) (hx : Loc X.env.scope x := by first | exact Or.inl rfl | exact Or.inr rfl) (hl : i ≠ F.ls ∨ F.lent = none := by first | exact Or.inr rfl | exact Or.inl (ne_ls rfl))
    (hs : swapsWith e (some (.Name x pos')) pos.line X.env = pure false := by rfl) (hf : X.fn x = true ∨ X.env.scope.names.lookup x = some .local := by first | exact .inl rfl | exact .inr rfl | assumption) :
    PMS X F (.Assign [.Name x pos'] e pos) (ownFO i fa) := by
  refine PS.imp (ps_set hN hi hx he hs hf) fun D σ H ⟨V, ρ, E, g⟩ => ⟨V, ρ, E, GoalF.ex g fun v d H1 V1 ρ1 st1 hv g1 => ?_⟩
  obtain ⟨a, rfl, h1, h2, h3⟩ := hv
  exact g1 _ _ _ (st1.env.setHid h1 (E.ext.free h2) (st1.notOwn E h2) h3 hl) (Same.refl _)
theorem pmf_lst {posl : Pos} (ha : PMA X F es fs) : PMF X F (.List es posl) (opA gLstD fs) := by
  refine PE.imp (pe_lst ha) fun σ H Q ⟨V, ρ, E, g0⟩ => ⟨V, ρ, E, GoalF.bind g0 fun xs ds H1 V1 ρ1 st1 r1 g1 => ?_⟩
  obtain ⟨z, ez, q⟩ := GoalF.opt st1.env g1
  unfold gLstD at ez
  split at ez
  · rename_i hl
    cases ez
    exact ⟨by rw [r1.length]; exact Nat.le_trans hl lim_le, fun p hp => q _ _ _ (Ext.hid st1.env.sub hp) ⟨p, rfl, st1.env.sub.free hp, hp, xs, upd_same, r1⟩⟩
  · cases ez
def tDNewX (w : World) : TE := fun _ H Q => ∀ p ep, H p = none → Q (.ref p) (upd H p (dX w p [] ep))
theorem pe_dnewX : PE X (.Dict [] [] pos) (tDNewX X.w) := ⟨fun pins s σ H Q I h => by
  obtain ⟨ep, ob⟩ := dx_new (P := X.prog) (w := X.w) (Nat.zero_le _) (beq_eq_false_iff_ne.mpr (Ne.symm (Nat.ne_of_lt I.big))) .nil (Heap.DictOfH.new s.heap)
  exact wpAny_Dict_empty ⟨.ref s.heap.objs.size, _, I.laid (a := s.heap.objs.size) (o := dX X.w s.heap.objs.size [] ep) (t' := s.toks) (fun _ _ q => Heap.get?_push_of_some _ q) (Nat.le_refl _) (ob _), rfl, h _ ep (I.hok.fresh (Nat.le_refl _))⟩⟩
theorem pmf_dnew : PMF X F (.Dict [] [] pos) (cD (.dict [])) := by
  refine PE.imp pe_dnewX fun σ H Q ⟨V, ρ, E, g0⟩ p ep hp => ?_
  exact g0 _ _ _ (E.step (Ext.hid E.sub hp)) ⟨p, rfl, E.sub.free hp, hp, .inr ⟨[], ep, upd_same, .nil⟩⟩
theorem pm_dnew : PM X F (.Dict [] [] pos) (cD (.dict [])) := pmf_dnew.pm
/-- [..] * n -/
def gRepD : PyData → PyData → Option PyData
  | .list a, .int k => if -(2 ^ 63) ≤ k ∧ k < 2 ^ 63 ∧ a.length * k.toNat ≤ LIM then some (.list (List.replicate k.toNat a).flatten) else none
  | _, _ => none
theorem pmf_rep {a b : Expr} {fb : M PyData} (ha : PM X F a fa) (hb : PM X F b fb) : PMF X F (.BinOp a .Mult b pos) (op2 gRepD fa fb) := by
  refine PE.imp (pe_op op_rep ha hb) fun σ H Q ⟨V, ρ, E, g0⟩ => ⟨V, ρ, E, GoalF.bind g0 fun x dx H1 V1 ρ1 st1 r1 g1 => ⟨V1, ρ1, st1.env, GoalF.bind g1 fun y dy H2 V2 ρ2 st2 r2 g2 => ?_⟩⟩
  obtain ⟨z, ez, q⟩ := GoalF.opt st2.env g2
  have s := st2.env.sub
  have r1 := r1.mono st2.v
  cases r1 with
  | @lst l xs ds hl rl =>
    cases r2 with
    | int j =>
      obtain ⟨hj, rfl⟩ := ite_some ez
      refine ⟨l, j, xs, rfl, rfl, s _ _ hl, hj.1, hj.2.1, by rw [rl.length]; exact Nat.le_trans hj.2.2 lim_le, fun p hp => q _ _ _ (Ext.hid s hp) ⟨p, rfl, s.free hp, hp, _, upd_same, rl.rep _⟩⟩
    | _ => cases ez
  | _ => cases r2 <;> cases ez
end
end DL
set_option Elab.async false
set_option linter.all false
set_option maxRecDepth 100000
set_option maxHeartbeats 1000000
namespace DL
open PySem PySem.Spec PyProof.Rows L2
variable [TabCtx]
def gCutL (lo hi : Option Int) : PyData → Option PyData
  | .list ds => some (.list (cutD ds lo hi))
  | _ => none
def slcL (a : M PyData) (lo hi : M (Option Int)) : M PyData := M.bind a fun x => M.bind lo fun l => M.bind hi fun h => M.opt (gCutL l h x)
end DL
set_option Elab.async false
set_option linter.all false
set_option maxRecDepth 100000
set_option maxHeartbeats 1000000
namespace DL
open PySem PySem.Spec PyProof.Rows L2
variable [TabCtx]
def whileN (t : M Bool) (body : SM) : Nat → Rho → O
  | 0, _ => .bad
  | n + 1, ρ => match t ρ with
    | .ok (true, ρ1) => (match body ρ1 with
      | .nx ρ2 => whileN t body n ρ2
      | .ct ρ2 => whileN t body n ρ2
      | .bk ρ2 => .nx ρ2
      | .rt x ρ2 => .rt x ρ2
      | .rf x ρ2 => .rf x ρ2
      | .exc c => .exc c
      | .bad => .bad)
    | .ok (false, ρ1) => .nx ρ1
    | .exc c => .exc c
    | .bad => .bad
def whileO (n : Nat) (t : M Bool) (body : SM) : SM := fun ρ => whileN t body n ρ
section
variable {X : Cx} {F : Fr} {c : Expr} {body : List Stmt} {pos : Pos} {ft : M Bool} {fb : SM}
theorem pms_while (n : Nat) (hp : PassesOwn (model X.prog X.w) X.A X.env X.xe) (hc : PMT X F c ft) (hb : PMSs X F body fb) : PMS X F (.While c body [] pos) (whileO n ft fb) := by
  refine PS.imp (ps_while hp hc hb) fun D σ H ⟨V, ρ, E, g0⟩ => ⟨fun m σ' H' => ∃ V' ρ', EnvR X.kw F H' V' σ' ρ' ∧ Same V V' ∧ GoalS X.kw F V' (whileN ft fb m ρ') D, ⟨n, V, ρ, E, Same.refl _, g0⟩, ?_⟩
  rintro m σ' H' ⟨V', ρ', E', sv, gl⟩
  refine ⟨V', ρ', E', ?_⟩
  cases m with
  | zero => exact False.elim gl
  | succ m =>
    unfold whileN at gl
    show Goal X.kw F σ' ρ' H' V' (fun _ (b : Bool) a => b = a) (ft ρ') _
    cases et : ft ρ' with
    | exc c => rw [et] at gl; exact fun H2 V2 x => gl σ' H2 V2 x
    | bad => rw [et] at gl; exact gl
    | ok pr =>
      obtain ⟨b, ρ1⟩ := pr
      rw [et] at gl
      intro b' H1 V1 st1 eb
      subst eb
      cases b' with
      | false =>
        show if false = true then _ else _
        rw [if_neg Bool.false_ne_true]
        exact gl σ' H1 V1 st1.env st1.v
      | true =>
        rw [if_pos rfl]
        refine ⟨fun σ2 H2 => ∃ V2 ρ2, EnvR X.kw F H2 V2 σ2 ρ2 ∧ Same V V2 ∧ GoalS X.kw F V2 (whileN ft fb m ρ2) D, fun σ2 H2 h => ⟨m, Nat.lt_succ_self m, h⟩, V1, ρ1, st1.env, ?_⟩
        have gl : GoalS X.kw F V' (match fb ρ1 with
          | .nx ρ2 => whileN ft fb m ρ2
          | .ct ρ2 => whileN ft fb m ρ2
          | .bk ρ2 => .nx ρ2
          | .rt x ρ2 => .rt x ρ2
          | .rf x ρ2 => .rf x ρ2
          | .exc c => .exc c
          | .bad => .bad) D := gl
        have v3 : Same V' V1 := st1.v
        cases eb : fb ρ1 with
        | nx ρ4 => rw [eb] at gl; exact fun σ4 H4 V4 E4 v4 => ⟨V4, ρ4, E4, (sv.trans v3).trans v4, GoalS.mono (v3.trans v4) gl⟩
        | ct ρ4 => rw [eb] at gl; exact fun σ4 H4 V4 E4 v4 => ⟨V4, ρ4, E4, (sv.trans v3).trans v4, GoalS.mono (v3.trans v4) gl⟩
        | bk ρ4 => rw [eb] at gl; exact fun σ4 H4 V4 E4 v4 => gl σ4 H4 V4 E4 (v3.trans v4)
        | rt x ρ4 => rw [eb] at gl; exact fun v σ4 H4 V4 E4 v4 => gl v σ4 H4 V4 E4 (v3.trans v4)
        | rf x ρ4 => rw [eb] at gl; exact fun v σ4 H4 V4 E4 v4 => gl v σ4 H4 V4 E4 (v3.trans v4)
        | exc c => rw [eb] at gl; exact gl
        | bad => rw [eb] at gl; exact gl
/-- what no rule speaks of -/
def badO : SM := fun _ => .bad
end
section
variable {X : Cx} {F : Fr} {e : Expr} {fa : M PyData} {pos : Pos}
def retF (a : M PyData) : SM := exO a fun d ρ => .rf d ρ
end
/-- a list of things that nothing can change -/
def immC : PyData → Bool
  | .list ds => immL ds
  | _ => false
def immR : R PyData → R PyData
  | .ok d => if immC d = true then .ok d else .bad
  | .exc c => .exc c
  | .bad => .bad
def callF (m : List PyData → R PyData) (a : M (List PyData)) : M PyData := M.bind a fun ds => M.lift (immR (m ds))
end DL
set_option Elab.async false
set_option linter.all false
set_option maxRecDepth 100000
set_option maxHeartbeats 1000000
namespace DL
open PySem PySem.Spec PyProof.Rows L2
variable [TabCtx]
def gNotInX : PyData → PyData → Option PyData := fun k d => match d with
  | .dict ps => if keyOk ps k = true then some (.bool (!(dlook ps k).isSome)) else none
  | _ => none
def gIxX : PyData → PyData → Option PyData := fun d k => match d with
  | .dict ps => if keyOk ps k = true then dlook ps k else none
  | _ => none
def rNotInX (w : World) : R2 := fun x y H Q => ∃ a o, y = .ref a ∧ DGX w H a x o ∧ Q (.bl (!o.isSome)) H
section
variable {X : Cx}
theorem op_notInX (hu : X.A.units + 64 < cLine) : OpR X (compareOp .NotIn) (rNotInX X.w) := by
  intro pins s σ H x y v u Q I rx ry h
  obtain ⟨a, o, rfl, g, q⟩ := h
  cases ry
  exact x_notIn (by omega) I g rx fun s' I' => ⟨.bl (!o.isSome), H, I', rfl, q⟩
end
theorem rep_ref {K : KW} {V : Hp} {y : L2.V} {ps : List (PyData × PyData)} (r : Rep K V y (.dict ps)) : ∃ a, y = .ref a ∧ Rep K V (.ref a) (.dict ps) := by
  cases r with
  | dk h r n => exact ⟨_, rfl, .dk h r n⟩
  | dt h r => exact ⟨_, rfl, .dt h r⟩
theorem look_some {α : Type} {P : α → PyData → Prop} {o : Option α} {r : Option PyData} (h : match r with | some d => ∃ v, o = some v ∧ P v d | none => o = none) : o.isSome = r.isSome := by
  cases r with
  | none => have h : o = none := h; rw [h]; rfl
  | some d => obtain ⟨v, h, _⟩ := (show ∃ v, o = some v ∧ P v d from h); rw [h]; rfl
theorem od_notInX {K : KW} : OpD K (rNotInX K.w) gNotInX := by
  intro x y dx dy z H V Q s rx ry e q
  cases dy with
  | dict ps =>
    obtain ⟨ok, rfl⟩ := ite_some (show (if keyOk ps dx = true then some (PyData.bool (!(dlook ps dx).isSome)) else none) = some z from e)
    obtain ⟨a, rfl, ra⟩ := rep_ref ry
    obtain ⟨o, g, l⟩ := Rep.look s ra rx ok
    refine ⟨a, o, rfl, g, ?_⟩
    rw [look_some l]
    exact q _ _ _ (Ext.refl s) (.bl _)
  | _ => cases e
section
variable {X : Cx} {F : Fr} {o k x : Expr} {pos : Pos} {fo fk fx : M PyData}
theorem isDX_rep {K : KW} {V H : Hp} (s : Same V H) {a : Addr} {ps : List (PyData × PyData)} (r : Rep K V (.ref a) (.dict ps)) : IsDX K.w H a := by
  cases r with
  | dk h _ _ => exact .inl ⟨_, rd_same s h⟩
  | dt h _ => exact .inr ⟨_, _, s _ _ h⟩
def tDGX (w : World) (td ty : TE) : TE := fun σ H Q => td σ H fun x H1 => ty σ H1 fun y H2 => ∃ a v, x = .ref a ∧ IsDX w H2 a ∧ DGX w H2 a y (some v) ∧ Q v H2
theorem pe_dgetX' {td ty : TE} (hu : X.A.units + 64 < cLine) (ho : PE X o td) (hi : PE X k ty) (hs : NoSl k) : PE X (.Subscript o k pos) (tDGX X.w td ty) := by
  refine ⟨fun pins s σ H Q I h => ?_⟩
  refine subD_of PySem.F.slot_dict_getitem.lookup hs (thn (ho.run pins s σ H _ I h) fun u s1 ⟨x, H1, I1, rx, q1⟩ => thn (hi.run pins s1 σ H1 _ I1 q1) fun iv s2 ⟨y, H2, I2, ry, a, v, ex, isd, g, q2⟩ => ?_)
  subst ex
  obtain rfl : u = Value.ref a := rx
  exact ⟨(isDX_at I2 isd).1, x_getItem (by omega) I2 g ry fun w' s3 I3 rw' => ⟨v, H2, I3, rw', q2⟩⟩
/-- d[k] -/
theorem pm_dix (hu : X.A.units + 64 < cLine) (ho : PM X F o fo) (hk : PM X F k fk) (hs : NoSl k := by exact fun _ _ => rfl) : PM X F (.Subscript o k pos) (op2 gIxX fo fk) := by
  refine PE.imp (pe_dgetX' hu ho hk hs) fun σ H Q ⟨V, ρ, E, g0⟩ => ⟨V, ρ, E, Goal.bind g0 fun x dx H1 V1 ρ1 st1 r1 g1 => ⟨V1, ρ1, st1.env, Goal.bind g1 fun y dy H2 V2 ρ2 st2 r2 g2 => ?_⟩⟩
  obtain ⟨z, ez, q⟩ := Goal.opt st2.env g2
  have s := st2.env.sub
  cases dx with
  | dict ps =>
    have ez : (if keyOk ps dy = true then dlook ps dy else none) = some z := ez
    by_cases ok : keyOk ps dy = true
    · rw [if_pos ok] at ez
      obtain ⟨a, rfl, ra⟩ := rep_ref (r1.mono st2.v)
      obtain ⟨ov, g, l⟩ := Rep.look s ra r2 ok
      rw [ez] at l
      obtain ⟨v, rfl, rv⟩ := l
      exact ⟨a, v, rfl, isDX_rep s ra, g, q _ _ _ (Ext.refl s) rv⟩
    · rw [if_neg ok] at ez; cases ez
  | _ => cases ez
/-- d.get(k), d.get(k, x) -/
def isDict : PyData → Bool
  | .dict _ => true
  | _ => false
def gGet1 (d k : PyData) : Option PyData := match d with
  | .dict ps => if keyOk ps k = true then some ((dlook ps k).getD .none) else none
  | _ => none
def gGet2 (d k x : PyData) : Option PyData := match d with
  | .dict ps => if keyOk ps k = true then some ((dlook ps k).getD x) else none
  | _ => none
def dget1 (fo fk : M PyData) : M PyData := M.bind fo fun d => if isDict d = true then M.bind fk fun k => M.opt (gGet1 d k) else fun _ => .bad
def dget2 (fo fk fx : M PyData) : M PyData := M.bind fo fun d => if isDict d = true then M.bind fk fun k => M.bind fx fun x => M.opt (gGet2 d k x) else fun _ => .bad
def tDGX2 (w : World) (td ty tx : TE) : TE := fun σ H Q => td σ H fun x H1 => ∃ a, x = .ref a ∧ IsDX w H1 a ∧ ty σ H1 fun y H2 => tx σ H2 fun z H3 => ∃ o, DGX w H3 a y o ∧ Q (o.getD z) H3
theorem pe_dgx2 {td ty tx : TE} {apos : Pos} (hu : X.A.units + 64 < cLine) (ho : PE X o td) (he : PE X k ty) (hf : PE X x tx) (m : M2 X o "get" apos k x pos) : PE X (.Call (.Attribute o "get" apos) [k, x] [] pos) (tDGX2 X.w td ty tx) := by
  refine ⟨fun pins s σ H Q I h => ?_⟩
  refine wpAny_Call_method m.base m.few m.line PySem.F.plainAttrs_dict PySem.F.slot_dict_get PySem.F.type_dict_get (thn (ho.run pins s σ H _ I h) fun u s1 ⟨x, H1, I1, rx, a, ex, d, q1⟩ => ?_)
  subst ex
  obtain rfl : u = Value.ref a := rx
  obtain ⟨t1, t2, _⟩ := isDX_at I1 d
  refine ⟨t1, t2, ?_⟩
  rw [m.trees]
  refine Calls.callWith_builtin rfl (Calls.evalArgs_plain (Calls.spliced_cons (thn (he.run pins s1 σ H1 _ I1 q1) fun iv s2 ⟨y, H2, I2, ry, q2⟩ =>
    Calls.spliced_cons (thn (hf.run pins s2 σ H2 _ I2 q2) fun fv s3 ⟨z, H3, I3, rz, ov, g, q3⟩ => Calls.spliced_nil ?_))))
  exact x_get2 (by omega) I3 g ry rz fun w' s4 I4 rw' => ⟨_, H3, I4, rw', q3⟩
theorem pm_dget2 {apos : Pos} (hu : X.A.units + 64 < cLine) (ho : PM X F o fo) (hk : PM X F k fk) (hx : PM X F x fx) (m : M2 X o "get" apos k x pos := by exact ⟨rfl, rfl, rfl, rfl⟩) : PM X F (.Call (.Attribute o "get" apos) [k, x] [] pos) (dget2 fo fk fx) := by
  refine PE.imp (pe_dgx2 hu ho hk hx m) fun σ H Q ⟨V, ρ, E, g0⟩ => ⟨V, ρ, E, Goal.bind g0 fun x dx H1 V1 ρ1 st1 r1 g1 => ?_⟩
  cases dx with
  | dict ps =>
    obtain ⟨a, rfl, ra⟩ := rep_ref r1
    refine ⟨a, rfl, isDX_rep st1.env.sub ra, V1, ρ1, st1.env, Goal.bind g1 fun y dy H2 V2 ρ2 st2 r2 g2 => ⟨V2, ρ2, st2.env, Goal.bind g2 fun z dz H3 V3 ρ3 st3 r3 g3 => ?_⟩⟩
    obtain ⟨zz, ez, q⟩ := Goal.opt st3.env g3
    have s := st3.env.sub
    obtain ⟨ok, rfl⟩ := ite_some (show (if keyOk ps dy = true then some ((dlook ps dy).getD dz) else none) = some zz from ez)
    obtain ⟨ov, g, l⟩ := Rep.look s ((ra.mono st2.v).mono st3.v) (r2.mono st3.v) ok
    refine ⟨ov, g, q _ _ _ (Ext.refl s) ?_⟩
    cases el : dlook ps dy with
    | none => rw [el] at l; have l : ov = none := l; rw [l]; exact r3
    | some d => rw [el] at l; obtain ⟨v, rfl, rv⟩ := l; exact rv
  | _ => exact False.elim g1
end
theorem RepK.putK {K : KW} {V : Hp} {kvs : List (Key × L2.V)} {ps : List (PyData × PyData)} {q : Key} {v : L2.V} {d : PyData} (r : RepK K V kvs ps) (rv : Rep K V v d) : RepK K V (putK kvs q v) (dput ps (keyD q) d) := by
  have ha : ∀ {kvs : List (Key × L2.V)} {ps : List (PyData × PyData)}, RepK K V kvs ps → (kvs.any fun kv => decide (kv.1 = q)) = ps.any fun p => keyEqD p.1 (keyD q) := by
    intro kvs ps r
    induction ps generalizing kvs with
    | nil => cases r; rfl
    | cons p ps ih =>
      cases r with
      | cons r1 t => rw [List.any_cons, List.any_cons, ih t, keyEq_keyD]
  have hm : ∀ {kvs : List (Key × L2.V)} {ps : List (PyData × PyData)}, RepK K V kvs ps → RepK K V (kvs.map fun kv => if kv.1 = q then (kv.1, v) else kv) (ps.map fun p => if keyEqD p.1 (keyD q) = true then (p.1, d) else p) := by
    intro kvs ps r
    induction ps generalizing kvs with
    | nil => cases r; exact .nil
    | cons p ps ih =>
      cases r with
      | @cons k x kvs dx _ r1 t =>
        rw [List.map_cons, List.map_cons]
        by_cases e : k = q
        · rw [if_pos e, if_pos (by show keyEqD (keyD k) (keyD q) = true; rw [keyEq_keyD, decide_eq_true e])]
          exact .cons rv (ih t)
        · rw [if_neg e, if_neg (by show ¬ keyEqD (keyD k) (keyD q) = true; rw [keyEq_keyD, decide_eq_false e]; exact Bool.false_ne_true)]
          exact .cons r1 (ih t)
  have hs : ∀ {kvs : List (Key × L2.V)} {ps : List (PyData × PyData)}, RepK K V kvs ps → RepK K V (kvs ++ [(q, v)]) (ps ++ [(keyD q, d)]) := by
    intro kvs ps r
    induction ps generalizing kvs with
    | nil => cases r; exact .cons rv .nil
    | cons p ps ih =>
      cases r with
      | cons r1 t => exact .cons r1 (ih t)
  unfold L2.putK dput
  rw [ha r]
  by_cases e : (ps.any fun p => keyEqD p.1 (keyD q)) = true
  · rw [if_pos e, if_pos e]; exact hm r
  · rw [if_neg e, if_neg e]; exact hs r
theorem RepT.putX {K : KW} {V : Hp} {xs : List (NestedKey × Addr × L2.V)} {ps : List (PyData × PyData)} {q : NestedKey} {b : Addr} {kd : PyData} {v : L2.V} {d : PyData} (r : RepT K V xs ps) (rk : Rep K V (.ref b) kd) (hq : nkey kd = some q) (dq : q.depth ≤ 8) (rv : Rep K V v d) : RepT K V (putX xs q b v) (dput ps kd d) := by
  have ek : ∀ {dk : PyData} {k : NestedKey}, nkey dk = some k → keyEqD dk kd = decide (k = q) := by
    intro dk k n
    unfold keyEqD
    rw [n, hq]
    by_cases e : k = q
    · subst e; simp
    · rw [decide_eq_false e, decide_eq_false (fun z => e (Option.some.inj z))]
  have ha : ∀ {xs : List (NestedKey × Addr × L2.V)} {ps : List (PyData × PyData)}, RepT K V xs ps → (xs.any fun x => decide (x.1 = q)) = ps.any fun p => keyEqD p.1 kd := by
    intro xs ps r
    induction ps generalizing xs with
    | nil => cases r; rfl
    | cons p ps ih =>
      cases r with
      | cons r1 n z r2 t => rw [List.any_cons, List.any_cons, ih t, ek n]
  have hm : ∀ {xs : List (NestedKey × Addr × L2.V)} {ps : List (PyData × PyData)}, RepT K V xs ps → RepT K V (xs.map fun x => if x.1 = q then (x.1, x.2.1, v) else x) (ps.map fun p => if keyEqD p.1 kd = true then (p.1, d) else p) := by
    intro xs ps r
    induction ps generalizing xs with
    | nil => cases r; exact .nil
    | cons p ps ih =>
      cases r with
      | @cons k b x xs dk dx _ r1 n z r2 t =>
        rw [List.map_cons, List.map_cons]
        by_cases e : k = q
        · rw [if_pos e, if_pos (by show keyEqD dk kd = true; rw [ek n, decide_eq_true e])]
          exact .cons r1 n z rv (ih t)
        · rw [if_neg e, if_neg (by show ¬ keyEqD dk kd = true; rw [ek n, decide_eq_false e]; exact Bool.false_ne_true)]
          exact .cons r1 n z r2 (ih t)
  have hs : ∀ {xs : List (NestedKey × Addr × L2.V)} {ps : List (PyData × PyData)}, RepT K V xs ps → RepT K V (xs ++ [(q, b, v)]) (ps ++ [(kd, d)]) := by
    intro xs ps r
    induction ps generalizing xs with
    | nil => cases r; exact .cons rk hq dq rv .nil
    | cons p ps ih =>
      cases r with
      | cons r1 n z r2 t => exact .cons r1 n z r2 (ih t)
  unfold DL.putX dput
  rw [ha r]
  by_cases e : (ps.any fun p => keyEqD p.1 kd) = true
  · rw [if_pos e, if_pos e]; exact hm r
  · rw [if_neg e, if_neg e]; exact hs r
theorem RepK.length {K : KW} {V : Hp} : ∀ {kvs : List (Key × L2.V)} {ps : List (PyData × PyData)}, RepK K V kvs ps → kvs.length = ps.length
  | _, _, .nil => rfl
  | _, _, .cons _ t => by simp [RepK.length t]
theorem RepT.length {K : KW} {V : Hp} : ∀ {kvs : List (NestedKey × Addr × L2.V)} {ps : List (PyData × PyData)}, RepT K V kvs ps → kvs.length = ps.length
  | _, _, .nil => rfl
  | _, _, .cons _ _ _ _ t => by simp [RepT.length t]
theorem dput_ne (ps : List (PyData × PyData)) (k v : PyData) : dput ps k v ≠ [] := by
  unfold dput
  by_cases e : (ps.any fun p => keyEqD p.1 k) = true
  · rw [if_pos e]
    intro z
    have : ps = [] := by simpa using z
    subst this
    cases e
  · rw [if_neg e]; simp
/-- a[k] = d of an own dict -/
theorem OwnAt.dput {K : KW} {V H : Hp} (s : Same V H) {a : Addr} {ps : List (PyData × PyData)} {y v : L2.V} {k d : PyData} (o : OwnAt K V H a (.dict ps)) (ry : Rep K V y k) (rv : Rep K V v d) (ok : keyOk ps k = true) (hl : ps.length < LIM) :
    ∃ u : Nat → HO, DPX K.w H a y v (fun ep => upd H a (u ep)) ∧ ∀ ep, OwnAt K V (upd H a (u ep)) a (.dict (dput ps k d)) := by
  rcases Bool.or_eq_true_iff.mp ok with ok | ok
  · obtain ⟨o1, o2⟩ := Bool.and_eq_true_iff.mp ok
    obtain ⟨q, rfl, rfl⟩ := plain_key ry o1
    rcases o with ⟨kvs, e, r, n⟩ | ⟨xs, ep, e, r⟩
    · exact ⟨fun _ => .dK (putK kvs q v), .inl ⟨kvs, q, e, rfl, by rw [r.length]; exact Nat.lt_trans hl lim_lt, rfl⟩, fun _ => .inl ⟨_, upd_same, r.putK rv, dput_ne _ _ _⟩⟩
    · have e0 := r.tups o2
      subst e0
      cases r
      exact ⟨fun _ => .dK [(q, v)], .inr (.inr ⟨ep, q, e, rfl, rfl⟩), fun _ => .inl ⟨_, upd_same, (RepK.nil).putK rv, dput_ne _ _ _⟩⟩
  · obtain ⟨o12, o3⟩ := Bool.and_eq_true_iff.mp ok
    obtain ⟨o1, o2⟩ := Bool.and_eq_true_iff.mp o12
    obtain ⟨q, b, e1, rfl, nq, dq⟩ := tup_key s ry o1 o2
    rcases o with ⟨kvs, e, r, n⟩ | ⟨xs, ep, e, r⟩
    · exact absurd (r.plains o3) n
    · exact ⟨fun ep => dX K.w a (putX xs q b v) ep, .inr (.inl ⟨xs, ep, q, b, e, r.keysAt s, rfl, nq, dq, by rw [r.length]; exact Nat.lt_trans hl lim_lt, rfl⟩), fun ep => .inr ⟨_, ep, upd_same, r.putX ry e1 dq rv⟩⟩
def sDPX (w : World) (td ty tv : TE) : TS := fun D σ H => tv σ H fun v H1 => td σ H1 fun x H2 => ty σ H2 fun y H3 => ∃ a H4, x = .ref a ∧ DPX w H3 a y v H4 ∧ ∀ ep, D.nx σ (H4 ep)
/-- d[k] = e, d an own dict in slot i -/
def dsetO (i : Nat) (fk fv : M PyData) : SM := exO fv fun dv ρ => if isOwn1 ρ[i]? = true then exO fk (fun dk ρ => match ρ[i]? with
  | some (.ow (.dict ps)) => if keyOk ps dk = true ∧ ps.length < LIM then .nx (ρ.set i (.ow (.dict (dput ps dk dv)))) else .bad
  | _ => .bad) ρ else .bad
section
variable {X : Cx} {F : Fr} {k value : Expr} {pos pos' : Pos} {fk fv : M PyData}
theorem ps_dputX {o : Expr} {td ty tv : TE} (hu : X.A.units + 64 < cLine) (ho : PE X o td) (hi : PE X k ty) (hv : PE X value tv) (hs : swapsWith value (some (.Subscript o k pos')) pos.line X.env = pure false) :
    PS X (.Assign [.Subscript o k pos'] value pos) (sDPX X.w td ty tv) := by
  refine ⟨fun pins s σ H D I h => ?_⟩
  refine wpAny_Assign_Subscript (thn (hv.run pins s σ H _ I h) fun r s1 ⟨v, H1, I1, rv, q1⟩ => thn (ho.run pins s1 σ H1 _ I1 q1) fun u s2 ⟨x, H2, I2, rx, q2⟩ => thn (hi.run pins s2 σ H2 _ I2 q2) fun iv s3 ⟨y, H3, I3, ry, a, H4, ex, g, q3⟩ => ?_) hs
  subst ex
  obtain rfl : u = Value.ref a := rx
  exact x_setItem (by omega) I3 g ry rv fun ep s4 I4 => ⟨σ, H4 ep, I4, q3 ep⟩
theorem pms_dset (i : Nat) {x : Str} {px : Pos} (hu : X.A.units + 64 < cLine) (hv : PM X F value fv) (hk : PM X F k fk) (hN : X.N[i]? = some x := by rfl) (hvs : Vis X.env.scope x := by first | exact Or.inl rfl | exact Or.inr (Or.inl rfl) | exact Or.inr (Or.inr rfl)) (hd : (x == ("__debug__" : Str)) = false := by decide) (hcd : (x == ("__classdict__" : Str)) = false := by decide)
    (hs : swapsWith value (some (.Subscript (.Name x px) k pos')) pos.line X.env = pure false := by rfl) : PMS X F (.Assign [.Subscript (.Name x px) k pos'] value pos) (dsetO i fk fv) := by
  refine PS.imp (ps_dputX hu (pe_var hN hvs hd hcd) hk hv hs) fun D σ H ⟨V, ρ, E, g⟩ => ⟨V, ρ, E, Goal.ex g fun v d H1 V1 ρ1 st1 r1 g1 => ?_⟩
  have g1 : GoalS X.kw F V1 (if isOwn1 ρ1[i]? = true then exO fk (fun dk ρ => match ρ[i]? with
    | some (.ow (.dict ps)) => if keyOk ps dk = true ∧ ps.length < LIM then .nx (ρ.set i (.ow (.dict (dput ps dk d)))) else .bad
    | _ => .bad) ρ1 else .bad) D := g1
  by_cases hio : isOwn1 ρ1[i]? = true
  · rw [if_pos hio] at g1
    cases eo : ρ1[i]? with
    | none => rw [eo] at hio; cases hio
    | some s =>
      cases s with
      | no => rw [eo] at hio; cases hio
      | ob _ => rw [eo] at hio; cases hio
      | sh d => rw [eo] at hio; cases hio
      | ow d0 =>
        obtain ⟨a, h1, h2, h3, h4⟩ := st1.env.ow i _ eo
        refine ⟨.ref a, h1, V1, ρ1, st1.env, Goal.ex g1 fun y dk H2 V2 ρ2 st2 r2 g2 => ?_⟩
        cases eo1 : ρ2[i]? with
        | none => rw [eo1] at g2; exact False.elim g2
        | some s1 =>
          rw [eo1] at g2
          cases s1 with
          | no => exact False.elim g2
          | ob _ => exact False.elim g2
          | sh d => exact False.elim g2
          | ow d1 =>
            cases d1 with
            | dict ps =>
              have g2 : GoalS X.kw F V2 (if keyOk ps dk = true ∧ ps.length < LIM then .nx (ρ2.set i (.ow (.dict (dput ps dk d)))) else .bad) D := g2
              obtain ⟨a', q1, q2, q3, q4⟩ := st2.env.ow i _ eo1
              have ea : a' = a := by rw [h1] at q1; exact (L2.V.ref.inj (Option.some.inj (Option.some.inj q1))).symm
              subst ea
              by_cases hc : keyOk ps dk = true ∧ ps.length < LIM
              · rw [if_pos hc] at g2
                obtain ⟨u, w1, w2⟩ := OwnAt.dput st2.env.sub q4 r2 (r1.mono st2.v) hc.1 hc.2
                exact ⟨a', _, rfl, w1, fun ep => g2 _ _ _ (st2.env.updOw eo1 q1 (w2 ep)) (Same.refl _)⟩
              · rw [if_neg hc] at g2
                exact False.elim g2
            | _ => exact False.elim g2
  · rw [if_neg hio] at g1
    exact False.elim g1
end
end DL
set_option Elab.async false
set_option linter.all false
set_option maxRecDepth 100000
set_option maxHeartbeats 1000000
namespace DL
open PySem PySem.Spec PyProof.Rows L2
variable [TabCtx]
inductive RepS (K : KW) (H0 V' H' : Hp) : List L2.V → List Sl → List Addr → Prop
  | nil : RepS K H0 V' H' [] [] []
  | sh {v : L2.V} {d : PyData} {vs : List L2.V} {ss : List Sl} {as : List Addr} : Rep K V' v d → RepS K H0 V' H' vs ss as → RepS K H0 V' H' (v :: vs) (.sh d :: ss) as
  | ow {a : Addr} {d : PyData} {vs : List L2.V} {ss : List Sl} {as : List Addr} : V' a = none → H0 a = none → OwnAt K V' H' a d → a ∉ as → RepS K H0 V' H' vs ss as → RepS K H0 V' H' (.ref a :: vs) (.ow d :: ss) (a :: as)
def GoalX (K : KW) (F : Fr) (σ : St) (ρ : Rho) (H V : Hp) (r : R (List Sl × Rho)) (Q : List L2.V → Hp → Prop) : Prop := match r with
  | .ok (ss, ρ') => ∀ vs H' V' as, Stp K F σ ρ ρ' H V H' V' → RepS K H V' H' vs ss as → Q vs H'
  | .exc c => ∀ H' V', Ext F.H0 F.V0 H' V' → F.W (.ref (He.ga K c)) σ H'
  | .bad => False
def tMX (K : KW) (F : Fr) (f : M (List Sl)) : TA := fun σ H Q => ∃ V ρ, EnvR K F H V σ ρ ∧ GoalX K F σ ρ H V (f ρ) Q
def PMX (X : Cx) (F : Fr) (es : List Expr) (f : M (List Sl)) : Prop := PA X es (tMX X.kw F f)
def xN : M (List Sl) := M.pure []
def xSh (a : M PyData) (r : M (List Sl)) : M (List Sl) := M.bind a fun x => M.bind r fun xs => M.pure (.sh x :: xs)
def xOw (a : M PyData) (r : M (List Sl)) : M (List Sl) := M.bind a fun x => M.bind r fun xs => M.pure (.ow x :: xs)
section
variable {K : KW} {F : Fr} {σ : St} {ρ ρ1 ρ2 : Rho} {H V H1 V1 H2 V2 : Hp}
theorem RepS.news {H0 V' H' : Hp} : ∀ {vs : List L2.V} {ss : List Sl} {as : List Addr}, RepS K H0 V' H' vs ss as → ∀ a ∈ as, H0 a = none
  | _, _, _, .nil => fun a h => nomatch h
  | _, _, _, .sh _ t => t.news
  | _, _, _, .ow _ h0 _ _ t => fun a h => by
    rcases List.mem_cons.mp h with e | e
    · rw [e]; exact h0
    · exact t.news a e
theorem RepS.old {V' H' : Hp} (k : ∀ b, H b ≠ none → H1 b ≠ none) : ∀ {vs : List L2.V} {ss : List Sl} {as : List Addr}, RepS K H1 V' H' vs ss as → RepS K H V' H' vs ss as
  | _, _, _, .nil => .nil
  | _, _, _, .sh r t => .sh r (t.old k)
  | _, _, _, .ow (a := a) h1 h0 o n t => .ow h1 (by
    cases q : H a with
    | none => rfl
    | some u => exact absurd h0 (k a (by rw [q]; exact fun z => nomatch z))) o n (t.old k)
end
section
variable {X : Cx} {F : Fr} {e : Expr} {es : List Expr} {fa : M PyData} {fs : M (List Sl)} {pos : Pos}
theorem pmx_nil : PMX X F [] xN := PA.imp pa_nil fun σ H Q ⟨V, ρ, E, g⟩ => g [] H V [] E.refl .nil
theorem goalX_bind {α β : Type} {K : KW} {σ : St} {ρ : Rho} {H V : Hp} {rep1 : Hp → β → α → Prop} {f : M α} {k : α → M (List Sl)} {Q : List L2.V → Hp → Prop} {Q1 : β → Hp → Prop} (g : GoalX K F σ ρ H V (M.bind f k ρ) Q)
    (h : ∀ b a H' V' ρ', Stp K F σ ρ ρ' H V H' V' → rep1 V' b a → (match k a ρ' with
      | .ok (ss, ρ'') => ∀ vs H'' V'' as, Stp K F σ ρ ρ'' H V H'' V'' → RepS K H V'' H'' vs ss as → Q vs H''
      | .exc c => ∀ H' V', Ext F.H0 F.V0 H' V' → F.W (.ref (He.ga K c)) σ H'
      | .bad => False) → Q1 b H') : Goal K F σ ρ H V rep1 (f ρ) Q1 := by
  unfold M.bind at g
  cases e : f ρ with
  | ok p =>
    obtain ⟨a, ρ'⟩ := p
    rw [e] at g
    exact fun b H' V' st r => h b a H' V' ρ' st r g
  | exc c => rw [e] at g; exact g
  | bad => rw [e] at g; exact g
theorem pmx_sh (ha : PM X F e fa) (hr : PMX X F es fs) (hs : starEach (e :: es) X.env = (false, eval e X.env) :: starEach es X.env := by rfl) : PMX X F (e :: es) (xSh fa fs) := by
  refine PA.imp (pa_cons ha hr hs) fun σ H Q ⟨V, ρ, E, g0⟩ => ⟨V, ρ, E, goalX_bind g0 fun v d H1 V1 ρ1 st1 r1 g1 => ⟨V1, ρ1, st1.env, ?_⟩⟩
  unfold M.bind at g1
  cases ef : fs ρ1 with
  | exc c => rw [ef] at g1; exact g1
  | bad => rw [ef] at g1; exact g1
  | ok pr =>
    obtain ⟨ss, ρ2⟩ := pr
    rw [ef] at g1
    intro vs H2 V2 as st2 r2
    exact g1 (v :: vs) H2 V2 as (st1.trans st2) (.sh (r1.mono st2.v) (r2.old st1.th))
theorem pmx_ow (ha : PMF X F e fa) (hr : PMX X F es fs) (hs : starEach (e :: es) X.env = (false, eval e X.env) :: starEach es X.env := by rfl) : PMX X F (e :: es) (xOw fa fs) := by
  refine PA.imp (pa_cons ha hr hs) fun σ H Q ⟨V, ρ, E, g0⟩ => ⟨V, ρ, E, ?_⟩
  have g0 : GoalX X.kw F σ ρ H V (M.bind fa (fun x => M.bind fs fun xs => M.pure (.ow x :: xs)) ρ) Q := g0
  unfold M.bind at g0
  cases ea : fa ρ with
  | exc c => rw [ea] at g0; exact g0
  | bad => rw [ea] at g0; exact g0
  | ok pr =>
    obtain ⟨d, ρ1⟩ := pr
    rw [ea] at g0
    intro v H1 V1 st1 hv
    obtain ⟨a, rfl, h1, h2, h3⟩ := hv
    refine ⟨V1, ρ1, st1.env, ?_⟩
    have g1 := g0
    dsimp only at g1
    cases ef : fs ρ1 with
    | exc c => rw [ef] at g1; exact g1
    | bad => rw [ef] at g1; exact g1
    | ok pr =>
      obtain ⟨ss, ρ2⟩ := pr
      rw [ef] at g1
      intro vs H2 V2 as st2 r2
      obtain ⟨o, ho, _⟩ := h3.there
      have hn : H1 a ≠ none := by rw [ho]; exact fun z => nomatch z
      exact g1 (.ref a :: vs) H2 V2 (a :: as) (st1.trans st2) (.ow (st2.f a h1 hn) h2 (h3.mono st2.v fun o q nt => st2.keep a o q nt (st1.notOwn E h2)) (fun z => hn (r2.news a z)) (r2.old st1.th))
def setL : List Nat → List Sl → Rho → Rho
  | i :: is, s :: ss, ρ => setL is ss (ρ.set i s)
  | _, _, ρ => ρ
def setV : List Nat → List L2.V → St → St
  | i :: is, v :: vs, σ => setV is vs (σ.set i (some v))
  | _, _, σ => σ
theorem EnvR.setS {K : KW} {F : Fr} {H V H0 : Hp} : ∀ {is : List Nat} {vs : List L2.V} {ss : List Sl} {as : List Addr} {σ : St} {ρ : Rho}, (∀ i ∈ is, i ≠ F.ls ∨ F.lent = none) → EnvR K F H V σ ρ → RepS K H0 V H vs ss as → (∀ a ∈ as, F.H0 a = none ∧ ¬ IsOwn σ ρ a) → EnvR K F H V (setV is vs σ) (setL is ss ρ)
  | [], _, _, _, _, _, _, E, r, _ => by cases r <;> exact E
  | i :: is, _, _, _, _, _, _, E, .nil, _ => E
  | i :: is, _, _, _, _, _, hl, E, .sh r t, ha => by
    refine EnvR.setS (is := is) (fun j hj => hl j (List.mem_cons_of_mem _ hj)) (E.setSh r (hl i List.mem_cons_self)) t (fun a h => ⟨(ha a h).1, fun z => (ha a h).2 (isOwn_set z)⟩)
  | i :: is, _, _, _, σ, ρ, hl, E, .ow (a := a) (d := d) h1 h0 o n t, ha => by
    refine EnvR.setS (is := is) (fun j hj => hl j (List.mem_cons_of_mem _ hj)) (E.setHid h1 (ha a List.mem_cons_self).1 (ha a List.mem_cons_self).2 o (hl i List.mem_cons_self)) t fun b h => ⟨(ha b (List.mem_cons_of_mem _ h)).1, fun z => ?_⟩
    obtain ⟨j, e, q1, q2⟩ := z
    rcases getElem_set_some q1 with ⟨rfl, _, _⟩ | ⟨ne, w1⟩
    · rcases getElem_set_some q2 with ⟨_, w2, _⟩ | ⟨ne, _⟩
      · have : a = b := L2.V.ref.inj (Option.some.inj w2)
        exact n (this ▸ h)
      · exact ne rfl
    · rw [List.getElem?_set_ne ne] at q2
      exact (ha b (List.mem_cons_of_mem _ h)).2 ⟨j, e, w1, q2⟩
/-- a, b, .. = e1, e2, .. -/
def parO (is : List Nat) (f : M (List Sl)) : SM := exO f fun ss ρ => if ss.length = is.length then .nx (setL is ss ρ) else .bad
theorem RepS.length {K : KW} {H0 V' H' : Hp} : ∀ {vs : List L2.V} {ss : List Sl} {as : List Addr}, RepS K H0 V' H' vs ss as → vs.length = ss.length
  | _, _, _, .nil => rfl
  | _, _, _, .sh _ t => by simp [t.length]
  | _, _, _, .ow _ _ _ _ t => by simp [t.length]
theorem par_of {K : KW} {is : List Nat} {f : M (List Sl)} {D : Ends} {σ : St} {H : Hp} (hl : ∀ i ∈ is, i ≠ F.ls ∨ F.lent = none) (h : tS K F (parO is f) D σ H) : tMX K F f σ H fun vs H1 => vs.length = is.length ∧ ∃ V1 ρ1, EnvR K F H1 V1 (setV is vs σ) ρ1 ∧ GoalS K F V1 (.nx ρ1) D := by
  obtain ⟨V, ρ, E, g⟩ := h
  refine ⟨V, ρ, E, ?_⟩
  unfold parO exO at g
  cases ef : f ρ with
  | exc c => rw [ef] at g; exact fun H' V' x => g σ H' V' x
  | bad => rw [ef] at g; exact g
  | ok pr =>
    obtain ⟨ss, ρ1⟩ := pr
    rw [ef] at g
    intro vs H1 V1 as st1 r1
    have g : GoalS K F V (if ss.length = is.length then .nx (setL is ss ρ1) else .bad) D := g
    by_cases he : ss.length = is.length
    · rw [if_pos he] at g
      exact ⟨by rw [r1.length]; exact he, V1, _, EnvR.setS (is := is) hl st1.env r1 (fun a ha => ⟨E.ext.free (r1.news a ha), st1.notOwn E (r1.news a ha)⟩), GoalS.mono st1.v g⟩
    · rw [if_neg he] at g
      exact False.elim g
theorem par_imp {K : KW} {f : M (List Sl)} {σ : St} {H : Hp} {Q Q' : List L2.V → Hp → Prop} (h : tMX K F f σ H Q) (i : ∀ vs H, Q vs H → Q' vs H) : tMX K F f σ H Q' := by
  obtain ⟨V, ρ, E, g⟩ := h
  refine ⟨V, ρ, E, ?_⟩
  cases ef : f ρ with
  | exc c => rw [ef] at g; exact g
  | bad => rw [ef] at g; exact g
  | ok pr => rw [ef] at g; exact fun vs H' V' as st r => i _ _ (g vs H' V' as st r)
theorem pms_par2 (i j : Nat) {x y : Str} {a b : Expr} {f : M (List Sl)} {px py pt pos : Pos} {kt k2 pt2} (ha : PMX X F [a, b] f) (hN : X.N.Nodup) (hi : X.N[i]? = some x := by rfl) (hj : X.N[j]? = some y := by rfl) (hij : i ≠ j := by decide)
    (hx : X.env.scope.names.lookup x = some .local := by rfl) (hy : X.env.scope.names.lookup y = some .local := by rfl) (hl : ∀ n ∈ [i, j], n ≠ F.ls ∨ F.lent = none := by first | exact fun _ _ => Or.inr rfl | (intro n hn; exact Or.inl (fun z => absurd (z ▸ hn) (nm_ls rfl))))
    (hw : swappedStores [.Tuple [.Name x px, .Name y py] kt pt] (.Tuple [a, b] k2 pt2) X.env = pure (some [x, y]) := by rfl)
    (hs : swapsWithSole [.Tuple [.Name x px, .Name y py] kt pt] (.Tuple [a, b] k2 pt2) pos.line X.env = pure false := by rfl) (hc : X.calm = true := by rfl) :
    PMS X F (.Assign [.Tuple [.Name x px, .Name y py] kt pt] (.Tuple [a, b] k2 pt2) pos) (parO [i, j] f) := by
  refine PS.imp (ps_par hc hN hi hj hij hx hy ha hw hs) fun D σ H h => par_imp (par_of hl h) fun vs H1 ⟨e, V1, ρ1, E1, g1⟩ => ?_
  match vs, e with
  | [v, w], _ => exact ⟨v, w, rfl, g1 _ _ _ E1 (Same.refl _)⟩
end
end DL
set_option Elab.async false
set_option linter.all false
set_option maxRecDepth 100000
set_option maxHeartbeats 1000000
namespace DL
open PySem PySem.Spec PyProof.Rows L2
end DL
set_option Elab.async false
set_option linter.all false
set_option maxRecDepth 100000
set_option maxHeartbeats 1000000
namespace DL
open PySem PySem.Spec PyProof.Rows L2
variable [TabCtx]
def dsd (ps : List (PyData × PyData)) (k v : PyData) : List (PyData × PyData) := if (dlook ps k).isSome = true then ps else dput ps k v
def ownD : Option Sl → Bool
  | some (.ow (.dict _)) => true
  | _ => false
def dsdO (i : Nat) (fk fv : M PyData) : SM := fun ρ => if ownD ρ[i]? = true then exO fk (fun dk => exO fv fun dv ρ => match ρ[i]? with
  | some (.ow (.dict ps)) => if (isTupD dk && keyOk ps dk) = true ∧ ps.length < LIM then .nx (ρ.set i (.ow (.dict (dsd ps dk dv)))) else .bad
  | _ => .bad) ρ else .bad
section
variable {X : Cx} {F : Fr} {k value : Expr} {pos apos cpos : Pos} {fk fv : M PyData}
def sDSD (w : World) (td ty tv : TE) : TS := fun D σ H => td σ H fun x H1 => ∃ a, x = .ref a ∧ IsDX w H1 a ∧ ty σ H1 fun y H2 => tv σ H2 fun v H3 => ∃ xs ep k b, H3 a = some (dX w a xs ep) ∧ KeysAt H3 xs ∧ y = .ref b ∧ NAt H3 k (.ref b) ∧ k.depth ≤ 8 ∧ xs.length < sizeLine ∧
  (∀ u, valV (vx xs) k = some u → D.nx σ H3) ∧ (valV (vx xs) k = none → ∀ ep, D.nx σ (upd H3 a (dX w a (putX xs k b v) ep)))
theorem ps_dsd {o : Expr} {td ty tv : TE} (hu : X.A.units + 64 < cLine) (ho : PE X o td) (he : PE X k ty) (hf : PE X value tv) (m : M2 X o "setdefault" apos k value cpos) (hs : swapsWith (.Call (.Attribute o "setdefault" apos) [k, value] [] cpos) none pos.line X.env = pure false) :
    PS X (.Expr (.Call (.Attribute o "setdefault" apos) [k, value] [] cpos) pos) (sDSD X.w td ty tv) := by
  have pe : PE X (.Call (.Attribute o "setdefault" apos) [k, value] [] cpos) (fun σ H Q => td σ H fun x H1 => ∃ a, x = .ref a ∧ IsDX X.w H1 a ∧ ty σ H1 fun y H2 => tv σ H2 fun v H3 => ∃ xs ep k b, H3 a = some (dX X.w a xs ep) ∧ KeysAt H3 xs ∧ y = .ref b ∧ NAt H3 k (.ref b) ∧ k.depth ≤ 8 ∧ xs.length < sizeLine ∧
      (∀ u, valV (vx xs) k = some u → Q u H3) ∧ (valV (vx xs) k = none → ∀ ep, Q v (upd H3 a (dX X.w a (putX xs k b v) ep)))) := by
    refine ⟨fun pins s σ H Q I h => ?_⟩
    refine wpAny_Call_method m.base m.few m.line PySem.F.plainAttrs_dict PySem.F.slot_dict_setdefault PySem.F.type_dict_setdefault (thn (ho.run pins s σ H _ I h) fun u s1 ⟨x, H1, I1, rx, a, ex, d, q1⟩ => ?_)
    subst ex
    obtain rfl : u = Value.ref a := rx
    obtain ⟨t1, t2, _⟩ := isDX_at I1 d
    refine ⟨t1, t2, ?_⟩
    rw [m.trees]
    refine Calls.callWith_builtin rfl (Calls.evalArgs_plain (Calls.spliced_cons (thn (he.run pins s1 σ H1 _ I1 q1) fun iv s2 ⟨y, H2, I2, ry, q2⟩ =>
      Calls.spliced_cons (thn (hf.run pins s2 σ H2 _ I2 q2) fun fv s3 ⟨z, H3, I3, rz, xs, ep0, kk, b, e, ks, ey, eb, dp, l, g1, g2⟩ => Calls.spliced_nil ?_))))
    subst ey
    cases (show iv = Value.ref b from ry)
    exact x_setdefault (by omega) I3 e ks eb dp l rz (fun v hv w' s4 I4 rw' => ⟨v, H3, I4, rw', g1 v hv⟩) fun hn ep s4 I4 => ⟨z, _, I4, rz, g2 hn ep⟩
  exact PS.imp (ps_expr pe hs) fun D σ H h => h
theorem pms_dsd (i : Nat) {x : Str} {px : Pos} (hu : X.A.units + 64 < cLine) (hk : PM X F k fk) (hv : PM X F value fv) (hN : X.N[i]? = some x := by rfl) (hvs : Vis X.env.scope x := by first | exact Or.inl rfl | exact Or.inr (Or.inl rfl) | exact Or.inr (Or.inr rfl)) (hd : (x == ("__debug__" : Str)) = false := by decide) (hcd : (x == ("__classdict__" : Str)) = false := by decide)
    (m : M2 X (.Name x px) "setdefault" apos k value cpos := by exact ⟨rfl, rfl, rfl, rfl⟩) (hs : swapsWith (.Call (.Attribute (.Name x px) "setdefault" apos) [k, value] [] cpos) none pos.line X.env = pure false := by rfl) :
    PMS X F (.Expr (.Call (.Attribute (.Name x px) "setdefault" apos) [k, value] [] cpos) pos) (dsdO i fk fv) := by
  refine PS.imp (ps_dsd hu (pe_var hN hvs hd hcd) hk hv m hs) fun D σ H ⟨V, ρ, E, g⟩ => ?_
  have g : GoalS X.kw F V (if ownD ρ[i]? = true then exO fk (fun dk => exO fv fun dv ρ => match ρ[i]? with
    | some (.ow (.dict ps)) => if (isTupD dk && keyOk ps dk) = true ∧ ps.length < LIM then .nx (ρ.set i (.ow (.dict (dsd ps dk dv)))) else .bad
    | _ => .bad) ρ else .bad) D := g
  by_cases hio : ownD ρ[i]? = true
  · rw [if_pos hio] at g
    cases eo : ρ[i]? with
    | none => rw [eo] at hio; cases hio
    | some s =>
      cases s with
      | no => rw [eo] at hio; cases hio
      | ob _ => rw [eo] at hio; cases hio
      | sh d => rw [eo] at hio; cases hio
      | ow d0 =>
        obtain ⟨a, h1, h2, h3, h4⟩ := E.ow i _ eo
        cases d0 with
        | dict ps0 =>
          refine ⟨.ref a, h1, a, rfl, ?_, V, ρ, E, Goal.ex g fun y dk H2 V2 ρ2 st2 r2 g2 => ⟨V2, ρ2, st2.env, Goal.ex g2 fun v dv H3 V3 ρ3 st3 r3 g3 => ?_⟩⟩
          · rcases h4 with ⟨kvs, e, _⟩ | ⟨xs, ep, e, _⟩
            · exact .inl ⟨kvs, .inl e⟩
            · exact .inr ⟨xs, ep, e⟩
          · cases eo1 : ρ3[i]? with
            | none => rw [eo1] at g3; exact False.elim g3
            | some s1 =>
              rw [eo1] at g3
              cases s1 with
              | no => exact False.elim g3
              | ob _ => exact False.elim g3
              | sh d => exact False.elim g3
              | ow d1 =>
                cases d1 with
                | dict ps =>
                  have g3 : GoalS X.kw F V3 (if (isTupD dk && keyOk ps dk) = true ∧ ps.length < LIM then .nx (ρ3.set i (.ow (.dict (dsd ps dk dv)))) else .bad) D := g3
                  obtain ⟨a', q1, q2, q3, q4⟩ := st3.env.ow i _ eo1
                  have ea : a' = a := by rw [h1] at q1; exact (L2.V.ref.inj (Option.some.inj (Option.some.inj q1))).symm
                  subst ea
                  by_cases hc : (isTupD dk && keyOk ps dk) = true ∧ ps.length < LIM
                  · rw [if_pos hc] at g3
                    obtain ⟨c1, c2⟩ := Bool.and_eq_true_iff.mp hc.1
                    have hplain : plainD dk = false := by cases dk <;> first | rfl | cases c1
                    have c3 : (isTupD dk && deepD dk && ps.all fun p => isTupD p.1) = true := by
                      unfold keyOk at c2
                      rw [hplain] at c2
                      simpa using c2
                    obtain ⟨o12, o3⟩ := Bool.and_eq_true_iff.mp c3
                    obtain ⟨o1, o2⟩ := Bool.and_eq_true_iff.mp o12
                    have rk := r2.mono st3.v
                    obtain ⟨q, b, e1, rfl, nq, dq⟩ := tup_key st3.env.sub rk o1 o2
                    rcases q4 with ⟨kvs, e, r, n⟩ | ⟨xs, ep, e, r⟩
                    · exact absurd (r.plains o3) n
                    · have lk := RepT.look e1 r
                      refine ⟨xs, ep, q, b, e, r.keysAt st3.env.sub, rfl, nq, dq, by rw [r.length]; exact Nat.lt_trans hc.2 lim_lt, fun u hu' => ?_, fun hn ep1 => ?_⟩
                      · have hs : (dlook ps dk).isSome = true := by
                          cases el : dlook ps dk with
                          | none => rw [el] at lk; have lk : valV (vx xs) q = none := lk; rw [lk] at hu'; cases hu'
                          | some z => rfl
                        have ed : dsd ps dk dv = ps := by unfold dsd; rw [if_pos hs]
                        rw [ed] at g3
                        have er : ρ3.set i (.ow (.dict ps)) = ρ3 := by
                          apply List.ext_getElem?
                          intro j
                          by_cases hj : i = j
                          · subst hj
                            rw [List.getElem?_set_self (List.getElem?_eq_some_iff.mp eo1).1, eo1]
                          · rw [List.getElem?_set_ne hj]
                        rw [er] at g3
                        exact g3 _ _ _ st3.env (Same.refl _)
                      · have hs : ¬ (dlook ps dk).isSome = true := by
                          cases el : dlook ps dk with
                          | none => exact Bool.false_ne_true
                          | some z => rw [el] at lk; obtain ⟨v', lk, _⟩ := lk; rw [lk] at hn; cases hn
                        have ed : dsd ps dk dv = dput ps dk dv := by unfold dsd; rw [if_neg hs]
                        rw [ed] at g3
                        exact g3 _ _ _ (st3.env.updOw eo1 q1 (.inr ⟨_, ep1, upd_same, r.putX rk e1 dq r3⟩)) (Same.refl _)
                  · rw [if_neg hc] at g3
                    exact False.elim g3
                | _ => exact False.elim g3
        | _ => rw [eo] at hio; cases hio
  · rw [if_neg hio] at g
    exact False.elim g
end
end DL
set_option Elab.async false
set_option linter.all false
set_option maxRecDepth 100000
set_option maxHeartbeats 1000000
namespace DL
open PySem PySem.Spec PyProof.Rows L2
variable [TabCtx]
/-- the keys of the dict at d -/
def Itx (w : World) (d : Addr) (xs : List (NestedKey × Addr × L2.V)) (ep : Nat) : It :=
  ⟨fun i H => H d = some (dX w d xs ep) ∧ i < xs.length, fun i H x H' => H' = H ∧ ∃ k b v, xs[i]? = some (k, b, v) ∧ x = .ref b, fun i H => H d = some (dX w d xs ep) ∧ xs.length ≤ i⟩
theorem xok_at {P : Program} {w : World} {H : Hp} {h : Heap} {d : Addr} {xs : List (NestedKey × Addr × L2.V)} {ep : Nat} (ok : HOk P w H h) (e : H d = some (dX w d xs ep)) : (d == sysModules) = false ∧ ∃ o es, h.get? d = some o ∧ o.ExactDict ∧ o.data = .dict es ep ∧ es.size = xs.length ∧
    ∀ (i : Nat) k b v, xs[i]? = some (k, b, v) → ∃ en : DictEntry, es[i]? = some en ∧ en.key = .ref b := by
  obtain ⟨⟨z, y, nd, us, o, es, r, h1, h2, h3, h4⟩, _, _⟩ := (show ObjOk P w H h d (dX w d xs ep) from ok d _ e)
  have hl : xs.length = us.length := Paired.length r
  refine ⟨y, o, es, h1, h2, h3, by rw [← Array.length_toList, h4, List.length_map, hl], fun i k b v hi => ?_⟩
  obtain ⟨u, hu, g1, g2, _⟩ := L2.paired_get r hi
  refine ⟨⟨u.1.hash w, .ref u.2.1, u.2.2⟩, ?_, ?_⟩
  · rw [← Array.getElem?_toList, h4, List.getElem?_map, hu]; rfl
  · show Value.ref u.2.1 = .ref b
    rw [← g2]
theorem turn_x {P : Program} {w : World} {K : PySem.W.Frag} {tg : Expr} {d : Addr} {xs : List (NestedKey × Addr × L2.V)} {ep : Nat} (it : Addr) : Turn P w K tg (Itx w d xs ep) [it] it (fun i h => h.IsKeyIter it d i xs.length ep) where
  mem := List.mem_singleton.mpr rfl
  obj := fun i h ⟨oi, e, c, dd⟩ b hb => by
    rw [List.mem_singleton.mp hb]
    exact ⟨oi, e, fun v z => by rw [dd] at z; cases z⟩
  keep := fun i h h' st k => st.at fun oi e => k it (List.mem_singleton.mpr rfl) oi e
  item := by
    intro X hP hw hK hc i pins s σ H E I hf st ⟨hd, hi⟩
    subst hP hw hK
    obtain ⟨f0, f1, f2, f3, f4, f5⟩ := hf it (List.mem_singleton.mpr rfl)
    obtain ⟨hs, o, es, g1, g2, g3, g4, g5⟩ := xok_at I.hok hd
    obtain ⟨⟨k, b, v⟩, hx⟩ : ∃ p, xs[i]? = some p := ⟨xs[i], List.getElem?_eq_getElem hi⟩
    obtain ⟨en, he, hk⟩ := g5 i k b v hx
    refine L2.next_key_item st g1 g3 g4 he fun h' st' sb => ?_
    have I1 : L2.Inv X pins σ H { s with heap := h' } := I.turned (t' := s.toks) (fun b ob hb e => (sb.2 b hb).trans e) f0 f1 f3 f4 f5
    obtain ⟨oi, e, c, dd⟩ := id st'
    refine ⟨en.key, rfl, go_of (s := { s with heap := h' }) e c dd (by decide) ⟨.ref b, H, I1, by rw [hk]; rfl, ⟨rfl, k, b, v, hx, rfl⟩, st', fun b hb => (hf b hb).1⟩⟩
  done := by
    intro X hP hw hK hc i pins s σ H E I hf st ⟨hd, hi⟩
    subst hP hw hK
    obtain ⟨f0, f1, f2, f3, f4, f5⟩ := hf it (List.mem_singleton.mpr rfl)
    obtain ⟨hs, o, es, g1, g2, g3, g4, g5⟩ := xok_at I.hok hd
    exact L2.next_key_end (I.ok.hd hc) st g1 g3 g4 hi fun h' eb => ⟨rfl, I.turned (t' := s.toks) (fun b ob hb e => eb b ob hb e) f0 f1 f3 f4 f5⟩
  self := fun A i s Q E st h => wpAny_pyIter_keyiter st h
def keysOf : PyData → Option (List PyData)
  | .dict ps => if (ps.all fun p => isTupD p.1) = true then some (ps.map (·.1)) else none
  | _ => none
def dictI (a : M PyData) : M (List PyData) := M.bind a fun d => M.opt (keysOf d)
theorem RepT.key {K : KW} {V : Hp} : ∀ {xs : List (NestedKey × Addr × L2.V)} {ps : List (PyData × PyData)} (i : Nat) {d : PyData}, RepT K V xs ps → (ps.map (·.1))[i]? = some d → ∃ k b v, xs[i]? = some (k, b, v) ∧ Rep K V (.ref b) d
  | _, _, _, _, .nil, h => by simp at h
  | _, _, 0, _, .cons q n z r t, h => by
    have e := Option.some.inj h
    subst e
    exact ⟨_, _, _, rfl, q⟩
  | _, _, i + 1, _, .cons q n z r t, h => by
    obtain ⟨k, b, v, h1, h2⟩ := RepT.key i t (by simpa using h)
    exact ⟨k, b, v, by simpa using h1, h2⟩
theorem RepT.len {K : KW} {V : Hp} : ∀ {xs : List (NestedKey × Addr × L2.V)} {ps : List (PyData × PyData)}, RepT K V xs ps → xs.length = ps.length
  | _, _, .nil => rfl
  | _, _, .cons _ _ _ _ t => by simp [RepT.len t]
theorem itX {K : KW} {a : Addr} {xs : List (NestedKey × Addr × L2.V)} {ep : Nat} {V : Hp} {ps : List (PyData × PyData)} (h : V a = some (dX K.w a xs ep)) (r : RepT K V xs ps) : ItD K (Itx K.w a xs ep) V (ps.map (·.1)) := by
  intro i H' V' s1 s2
  have hq : H' a = some (dX K.w a xs ep) := s2 _ _ (s1 _ _ h)
  have hl := RepT.len r
  refine ⟨fun d hd => ?_, fun e => ⟨hq, by rw [hl, e, List.length_map]; exact Nat.le_refl _⟩⟩
  obtain ⟨k, b, v, h1, h2⟩ := RepT.key i r hd
  refine ⟨⟨hq, (List.getElem?_eq_some_iff.mp h1).1⟩, fun x H'' ⟨e, k', b', v', h3, ex⟩ => ?_⟩
  subst e ex
  rw [h1] at h3
  cases h3
  exact ⟨V', Ext.refl s2, h2.mono s1⟩
def iDict (w : World) (tl : TE) : TI := fun σ H R => tl σ H fun x H1 => ∃ a xs ep, x = .ref a ∧ H1 a = some (dX w a xs ep) ∧ R (Itx w a xs ep) H1
section
variable {X : Cx} {F : Fr} {tg l : Expr} {fa : M PyData}
theorem pi_dict {tl : TE} (hl : PE X l tl) : PI X tg l (iDict X.w tl) := by
  refine ⟨fun pins s σ H R I h => ?_⟩
  refine thn (hl.run pins s σ H _ I h) fun v s1 ⟨x, H1, I1, r1, a, xs, ep, ex, hx, q⟩ => ?_
  subst ex
  cases r1
  obtain ⟨hs, o, es, g1, g2, g3, g4, g5⟩ := xok_at I1.hok hx
  refine L2.iter_keys hs g1 g2 g3 (pi_one (tk := s1.toks) I1 _ (turn_x _) ⟨_, Heap.get?_push_size _ rfl, rfl, ?_⟩ q)
  rw [g4]; rfl
theorem pmi_dict (h : PM X F l fa) : PMI X F tg l (dictI fa) := by
  refine PI.imp (pi_dict h) fun σ H R ⟨V, ρ, E, g0⟩ => ⟨V, ρ, E, Goal.bind g0 fun x dx H1 V1 ρ1 st1 r1 g1 => ?_⟩
  obtain ⟨z, ez, q⟩ := Goal.opt st1.env g1
  have s := st1.env.sub
  cases r1 with
  | @dk a kvs ps ha ra n =>
    have ez : (if (ps.all fun p => isTupD p.1) = true then some (ps.map (·.1)) else none) = some z := ez
    have hc : (ps.all fun p => isTupD p.1) = true := by
      by_cases hc : (ps.all fun p => isTupD p.1) = true
      · exact hc
      · rw [if_neg hc] at ez; cases ez
    exact absurd (ra.plains hc) n
  | @dt a xs ep ps ha ra =>
    have ez : (if (ps.all fun p => isTupD p.1) = true then some (ps.map (·.1)) else none) = some z := ez
    have hc : (ps.all fun p => isTupD p.1) = true := by
      by_cases hc : (ps.all fun p => isTupD p.1) = true
      · exact hc
      · rw [if_neg hc] at ez; cases ez
    rw [if_pos hc] at ez
    cases ez
    exact ⟨a, xs, ep, rfl, s _ _ ha, q _ _ _ (Ext.refl s) (itX ha ra)⟩
  | _ => cases ez
end
end DL
set_option Elab.async false
set_option linter.all false
set_option maxRecDepth 100000
set_option maxHeartbeats 1000000
namespace DL
open PySem PySem.Spec PyProof.Rows L2
variable [TabCtx]
/-- k tells v and does nothing else -/
def CSem (X : Cx) (k : Sem Value) (v : L2.V) : Prop := ∀ (pins : List (Addr × Obj)) (s : Shared) (σ : L2.St) (H : Hp) (Q : Value → Shared → Prop), L2.Inv X pins σ H s → (∀ u s', L2.Inv X pins σ H s' → L2.RelV v u → Q u s') → wpAny (model X.prog X.w) X.A k Q X.xe s
inductive PairsC (X : Cx) : List (Sem Value × Sem Value) → List (Key × L2.V) → Prop
  | nil : PairsC X [] []
  | cons {a b : Sem Value} {k : Key} {v : L2.V} {ps : List (Sem Value × Sem Value)} {kvs : List (Key × L2.V)} : CSem X a (kV k) → CSem X b v → PairsC X ps kvs → PairsC X ((a, b) :: ps) ((k, v) :: kvs)
section
variable {X : Cx} {F : Fr} {pos : Pos}
theorem PairsC.len {ps : List (Sem Value × Sem Value)} {kvs : List (Key × L2.V)} (h : PairsC X ps kvs) : ps.length = kvs.length := by
  induction h with
  | nil => rfl
  | cons _ _ _ ih => rw [List.length_cons, List.length_cons, ih]
end
end DL
set_option Elab.async false
set_option linter.all false
set_option maxRecDepth 100000
set_option maxHeartbeats 2000000
namespace HD
open PySem PySem.Spec PyProof.Rows L2 HotX
section
variable {prog : Program} {w : World} {A : Around} {E : Value → Shared → Prop} {s : Shared}
theorem HotAt.kept {x1 : Addr} {h h' : Heap} (hot : HotAt A x1 h) (k : ∀ o, h.get? x1 = some o → h'.get? x1 = some o) : HotAt A x1 h' := by
  obtain ⟨hh, o1, vs1, h1, d1, c1⟩ := hot
  exact ⟨hh, o1, vs1, k _ h1, d1, c1⟩
end
end HD
set_option Elab.async false
set_option linter.all false
set_option maxRecDepth 100000
set_option maxHeartbeats 2000000
set_option Elab.async false
set_option linter.all false
set_option maxRecDepth 100000
set_option maxHeartbeats 2000000
set_option Elab.async false
set_option linter.all false
set_option maxRecDepth 100000
set_option maxHeartbeats 2000000
set_option Elab.async false
set_option linter.all false
set_option maxRecDepth 100000
set_option maxHeartbeats 2000000
set_option Elab.async false
set_option linter.all false
set_option maxRecDepth 100000
set_option maxHeartbeats 2000000
namespace HD
open PySem PySem.Spec PyProof.Rows L2 L2H HotX LamX
/-- the context of the lambda's body -/
abbrev lamN (X : Cx) (A : Around) (outer : List Env) (s : Shared) (H : Hp) (E : XK) (scope : Scope) (f c' : Addr) : Cx :=
  (lamCx X A outer s H E scope f c').tr [] fun e s' => wpAny (model X.prog X.w) (A.deeper (lamEnv X scope s.heap.objs.size f c')) (leaving (lamEnv X scope s.heap.objs.size f c') e) (fun _ s'' => L2N.CX X.prog X.w outer H s E e s'') (fun e' s'' => L2N.CX X.prog X.w outer H s E e' s'') s'
section
variable {X : Cx} {pins : List (Addr × Obj)} {σ : L2.St} {H HZ : Hp} {s s1 : Shared}
theorem act_N {CXg : CXT} {Eg : XK} {Ng : List Str} {qg : Str} {sg : Scope} {g f c' : Addr} {cdg pm ctv : Value} {params : Arguments} {body : Expr} {scope : Scope} {k i : Nat} {a : Str} {pn : List (Addr × Obj)} {xe : Value → Shared → Prop} {W : WX} {E : XK} {tb : TE} {p1 p2 : Pos}
    (I : Inv X pins σ H s) (L : LamS X.env.scope scope) (hf : s.heap.get? f = some (PySem.W.kla_obj "<lambda>" (X.env.qual ++ "<lambda>") params body scope (cloFrom X.env.cells scope.names []) pm c' ctv)) (hfn : H f = none) (hfr : f ∉ frs X.stack)
    (hbind : bindArgs (PySem.W.kla_fn "<lambda>" (X.env.qual ++ "<lambda>") params body scope (cloFrom X.env.cells scope.names []) pm (.ref c') ctv) ⟨[], []⟩ = pure [])
    (tk : L2N.Takes ((cxOf CXg X.prog X.w X.K X.mg X.base Ng qg sg g cdg X.A X.stack s H Eg).tr pn xe) W) (hW : ∀ cls d σ' H', E cls d H' → W cls d σ' H') (hr : Room (k + 1) (X.A.deeper (envOfC qg sg s.heap.objs.size g cdg)))
    (hbody : ∀ (A : Around) (outer : List Env) (s : Shared) (H : Hp), Room k (A.deeper (lamEnv X scope s.heap.objs.size f c')) → PE (lamN X A outer s H E scope f c') body tb)
    (hN : Ng[i]? = some a) (hv : Vis sg a) (hd : (a == ("__debug__" : Str)) = false := by decide) (hcd : (a == ("__classdict__" : Str)) = false := by decide) :
    PE ((cxOf CXg X.prog X.w X.K X.mg X.base Ng qg sg g cdg X.A X.stack s H Eg).tr pn xe) (.Call (.Name a p1) [] [] p2)
      (fun σZ HZ Q => σZ[i]? = some (some (.ref f)) ∧ HZ c' = some (CodeO c' (X.env.qual ++ "<lambda>")) ∧ tb σ HZ Q) := by
  refine ⟨fun pinsZ sZ σZ HZ Q IZ ⟨hs, hc, ht⟩ => ?_⟩
  refine wpAny_Call_Name_kw (thn ((pe_var (pos := p1) (i := i) hN hv hd hcd).run pinsZ sZ σZ HZ (fun v H1 => v = .ref f ∧ H1 = HZ) IZ ⟨.ref f, hs, rfl, rfl⟩) fun u s1 ⟨v, H1, I1, r1, ev, eH⟩ => ?_)
  subst ev
  rw [eH] at I1
  obtain rfl : u = Value.ref f := r1
  have of1 : s1.heap.get? f = some (PySem.W.kla_obj "<lambda>" (X.env.qual ++ "<lambda>") params body scope (cloFrom X.env.cells scope.names []) pm c' ctv) := I1.base.keep f _ hf hfn hfr (fun z => nomatch (show f ∈ ([] : List Addr) from z))
  refine PySem.W.callWith_F0 ⟨_, _, _, _, of1⟩ ?_
  have un : Un (frs X.stack) [] H HZ s.heap s1.heap := I1.base
  obtain ⟨⟨oc, vs, t, hoc, hdc, hvc⟩, _, _⟩ := I1.hok c' _ hc
  have rc : codeAny (model X.prog X.w) (X.A.deeper (envOfC qg sg s.heap.objs.size g cdg)) (.call (.ref f) ⟨[], []⟩) (CR (L2N.CX X.prog X.w) (envOfC qg sg s.heap.objs.size g cdg :: X.stack) X.prog X.w HZ s1 Q E) s1 := by
    refine PySem.W.kla_callFunE hr.depth of1 rfl L.co L.gen rfl ⟨c', oc, vs, t, rfl, hoc, hdc, hvc⟩ ?_
    rw [hbind]
    refine wpAny_pure (wpAny_newFunctionEnv (fun y hy => (L.own y hy).2) (fun y hy => absurd hy (by simp)) (fun h₁ hns hsb => ⟨I1.nolimit.fresh _ hsb, ?_⟩) L.kind)
    show codeAny _ _ (.expr body (lamEnv X scope s1.heap.objs.size f c')) _ _
    have kp : ∀ b o, s1.heap.get? b = some o → h₁.get? b = some o := fun b o e => hsb.extBut b o (Nat.ne_of_lt (Heap.lt_size e)) (Heap.get?_push_of_some _ e)
    have J0 : Inv (lamCx X (X.A.deeper (envOfC qg sg s.heap.objs.size g cdg)) (envOfC qg sg s.heap.objs.size g cdg :: X.stack) s1 HZ E scope f c') [] σ HZ { s1 with heap := h₁, toks := s1.toks + ([] : List (Str × Value)).length } :=
      lam_start2 I L I1.env0 hr.hd un hns kp
    have J : Inv (lamN X (X.A.deeper (envOfC qg sg s.heap.objs.size g cdg)) (envOfC qg sg s.heap.objs.size g cdg :: X.stack) s1 HZ E scope f c') [] σ HZ { s1 with heap := h₁, toks := s1.toks + ([] : List (Str × Value)).length } := J0.toTry _
    refine PySem.W.kla_codeExpr (wpAny_mono ((hbody _ _ s1 HZ (hr.deeper _)).run [] _ _ HZ Q J ht) (fun v s' hq => ?_) fun e s' hq => hq)
    obtain ⟨w', H', J', rv, q⟩ := hq
    exact ⟨w', H', J'.os, J'.bare, J'.base, J'.hok, rv, q⟩
  have hx := L2N.passes_call (E := E) tk hW
  refine wpAny_call (codeAny_mono rc fun r s' hq => ?_)
  cases r with
  | error e => exact hx pinsZ σZ HZ s1 e s' I1 hq
  | ok fl =>
    cases fl with
    | ret u => exact I1.after hq
    | next => exact False.elim hq
    | brk => exact False.elim hq
    | cont => exact False.elim hq
end
section
variable [DL.TabCtx] {X : Cx} {pins : List (Addr × Obj)} {σ : L2.St} {H : Hp} {s : Shared}
/-- a code object is new, its table grows -/
theorem ext_grown {V : Hp} {P n : Addr} {q : Str} {ps more : Array Value} {u : HO} (hP : H P = some (.tbl ps)) (hn : H n = none) (sv : Same V H) (vP : V P = none) (ht : Tabs DL.TBS H → Tabs DL.TBS (upd (upd H P (.tbl more)) n u)) : DL.Ext H V (upd (upd H P (.tbl more)) n u) V := by
  have nn : ∀ {b : Addr}, H b ≠ none → b ≠ n := fun {b} h z => h (by rw [z]; exact hn)
  have at_ : ∀ {b : Addr}, b ≠ P → b ≠ n → upd (upd H P (.tbl more)) n u b = H b := fun {b} h1 h2 => by rw [upd_ne h2, upd_ne h1]
  refine ⟨fun b o e nt => ?_, Same.refl _, fun b o e => ?_, fun _ z _ => z, fun b h => ?_, ht⟩
  · rw [at_ (fun z => nt ps (Option.some.inj (e.symm.trans (by rw [z]; exact hP)))) (nn (by rw [e]; exact fun z => nomatch z))]; exact e
  · have e2 := sv b o e
    rw [at_ (fun z => by rw [z, vP] at e; cases e) (nn (by rw [e2]; exact fun z => nomatch z))]; exact e2
  · by_cases hb : b = P
    · rw [hb, upd_ne (by rw [← hb]; exact nn h), upd_same]; exact fun z => nomatch z
    · rw [at_ hb (nn h)]; exact h
/-- the lambda is made; what is known of the heap behind -/
theorem lam_makeT {c P : Addr} {params : Arguments} {body : Expr} {scope : Scope} {pos : Pos} {E Q : Value → Shared → Prop} (TB : TabB X.base X.mg c P) (hcode : X.env.code = .ref c) (I : Inv X pins σ H s)
    (hm : (P, X.env.qual ++ "<lambda>") ∈ DL.TBS) (hu : ∀ p ∈ DL.TBS, p.1 = P → p.2 = X.env.qual ++ "<lambda>") (hT : Tabs DL.TBS H) (hdef : defaultsOf params X.env = ([], []))
    (hfree : ∀ y ∈ scope.names, y.2 = .free → ∃ c, X.env.cells.lookup y.1 = some c)
    (h : ∀ (f n : Addr) (pm ctv : Value) (H1 : Hp) (s1 : Shared), Inv X pins σ H1 s1 → (∀ V, Same V H → V P = none → DL.Ext H V H1 V) → H1 f = none → f ∉ frs X.stack → H1 n = some (CodeO n (X.env.qual ++ "<lambda>")) →
      s1.heap.get? f = some (PySem.W.kla_obj "<lambda>" (X.env.qual ++ "<lambda>") params body scope (cloFrom X.env.cells scope.names []) pm n ctv) → s.heap.objs.size ≤ f → Q (.ref f) s1) :
    wpAny (model X.prog X.w) X.A (eval (.Lambda params body scope pos) X.env) Q E s := by
  obtain ⟨tb, hP, tOk, tAll⟩ := hT _ hm
  have gP : s.heap.get? P = some { cls := .none, data := .fields tb } := I.hok P _ hP
  have far : ∀ b, s.heap.objs.size ≤ b → b ∉ frs X.stack := fun b hb z =>
    (List.mem_cons.mp (I.stkSub _ z)).elim (fun e => Nat.lt_irrefl _ (Nat.lt_of_lt_of_le (by have := I.lt; rw [← e] at this; exact this) hb)) fun e => I.nofs hb e
  refine PySem.W.kla_eval hdef ?_
  cases q : codeAmong pos tb.toList with
  | some cv =>
    obtain ⟨n, rfl, hn⟩ := tAll pos cv q
    refine PySem.W.kla_makeFunctionHit (mg := X.mg) (closure_ok hfree) I.ok.glob (I.mod.glob.keeps I.bk) hcode (TB.code.keeps I.bk) gP tOk q (TB.bm.keeps I.bk) fun ctv h1 tk k1 sz => ?_
    refine h h1.objs.size n ((X.mg "__name__").getD .none) ctv H _ ?_ (fun V sv _ => DL.Ext.refl sv) (I.hok.fresh sz) (far _ sz) hn (Heap.get?_push_size _ rfl) sz
    exact I.kept fun b o e => Heap.get?_push_of_some _ (k1 b o e)
  | none =>
    refine PySem.W.kla_makeFunction (mg := X.mg) (closure_ok hfree) I.ok.glob (I.mod.glob.keeps I.bk) hcode (TB.code.keeps I.bk) gP tOk q TB.gP (TB.bm.keeps I.bk) fun n ctv h1 tk k1 ge lt rc tb1 => ?_
    obtain ⟨_, ob, us, t, e0, e1, e2, e3⟩ := rc
    cases e0
    have hn : H n = none := I.hok.fresh ge
    have sz : s.heap.objs.size ≤ h1.objs.size := Nat.le_trans ge (Nat.le_of_lt lt)
    have nPn : P ≠ n := ne_of_none hP hn
    have J := inv_table (t' := tk) (q := X.env.qual ++ "<lambda>") (h' := h1.push (PySem.W.kla_obj "<lambda>" (X.env.qual ++ "<lambda>") params body scope (cloFrom X.env.cells scope.names []) ((X.mg "__name__").getD .none) n ctv)) I hP (fun b o hb e => Heap.get?_push_of_some _ (k1 b o hb e))
      (Heap.get?_push_of_some _ tb1) ge ⟨ob, us, t, Heap.get?_push_of_some _ e1, e2, e3⟩
    have kept : ∀ b u, H b = some u → (∀ ps, u ≠ .tbl ps) → upd (upd H P (.tbl (tb ++ #[rawInt pos.line, rawInt pos.col, .ref n]))) n (CodeO n (X.env.qual ++ "<lambda>")) b = some u := fun b u e nt => by
      rw [upd_ne (ne_of_none e hn), upd_ne (fun z => nt tb (Option.some.inj (e.symm.trans (by rw [z]; exact hP))))]; exact e
    refine h h1.objs.size n ((X.mg "__name__").getD .none) ctv _ _ J (fun V sv vP => ext_grown (q := X.env.qual) hP hn sv vP fun _ p hp => ?_) ?_ (far _ sz) upd_same (Heap.get?_push_size _ rfl) sz
    · by_cases hb : p.1 = P
      · rw [hu p hp hb, hb]
        have eL : (tb ++ #[rawInt pos.line, rawInt pos.col, .ref n]).toList = tb.toList ++ [rawInt pos.line, rawInt pos.col, .ref n] := by simp
        refine ⟨_, by rw [upd_ne nPn, upd_same], by rw [eL]; exact PySem.TriplesOk_snoc _ _ _ _ tOk, fun p2 v2 hv => ?_⟩
        rw [eL] at hv
        rcases among_app _ tOk hv with z | z
        · obtain ⟨d, d1, d2⟩ := tAll p2 v2 z
          exact ⟨d, d1, kept _ _ d2 codeO_ne⟩
        · exact ⟨n, z, upd_same⟩
      · obtain ⟨tb', a1, a2, a3⟩ := hT p hp
        refine ⟨tb', by rw [upd_ne (ne_of_none a1 hn), upd_ne hb]; exact a1, a2, fun p2 v2 hv => ?_⟩
        obtain ⟨d, d1, d2⟩ := a3 p2 v2 hv
        exact ⟨d, d1, kept _ _ d2 codeO_ne⟩
    · rw [upd_ne (Nat.ne_of_gt lt), upd_ne (Nat.ne_of_gt (Nat.lt_of_lt_of_le (Heap.lt_size gP) sz))]
      exact I.hok.fresh sz
end
section
variable {X : Cx} {pins : List (Addr × Obj)} {σ : L2.St} {H HZ : Hp} {s s1 : Shared}
/-- the def that calls what it got -/
def GivesN (X : Cx) (Ng : List Str) (x : Str) (sg : Scope) (g : Addr) (cdg : Value) (bg : List Stmt) (a : Str) (q : Str) (TT : (XK → Hp → VK → Prop) → Hp → VK → Prop) : Prop :=
  ∀ (k : Nat) (f c' : Addr) (s : Shared) (H : Hp) (Q : VK) (tl : XK → Hp → VK → Prop), Room (k + 1) (X.A.deeper (envOfC x sg s.heap.objs.size g cdg)) →
    (∀ (W : WX) (pn : List (Addr × Obj)) (xe : Value → Shared → Prop) (E : XK) (p1 p2 : Pos), L2N.Takes ((cxOf C8.CX0 X.prog X.w X.K X.mg X.base Ng x sg g cdg X.A X.stack s H C8.E0).tr pn xe) W → (∀ cls d σ' H', E cls d H' → W cls d σ' H') →
      PE ((cxOf C8.CX0 X.prog X.w X.K X.mg X.base Ng x sg g cdg X.A X.stack s H C8.E0).tr pn xe) (.Call (.Name a p1) [] [] p2) (fun σZ HZ Q => σZ[0]? = some (some (.ref f)) ∧ HZ c' = some (CodeO c' q) ∧ tl E HZ Q)) →
    H c' = some (CodeO c' q) → TT tl H Q →
    ∃ t, PSs (cxOf C8.CX0 X.prog X.w X.K X.mg X.base Ng x sg g cdg X.A X.stack s H C8.E0).nox bg t ∧ t { nx := fun _ H' => Q .non H', rt := Q } (L2.start Ng [.ref f]) H
section
variable [DL.TabCtx]
def tLamT (P : Addr) (TT : (XK → Hp → VK → Prop) → Hp → VK → Prop) (t : XK → TE) : TE := fun σ H Q => Tabs DL.TBS H ∧ ∀ H1, (∀ V, Same V H → V P = none → DL.Ext H V H1 V) → TT (fun E H' Q' => t E σ H' Q') H1 Q
theorem lamcall_N {TT : (XK → Hp → VK → Prop) → Hp → VK → Prop} {x a : Str} {g c P : Addr} {k : Nat} {pg : Arguments} {bg : List Stmt} {sg : Scope} {dV kV doc pm cdv ct oc : Value} {an od : Option Addr} {osl : Array (Option Value)} {Ng : List Str}
    {params : Arguments} {body : Expr} {scope : Scope} {t : XK → TE} {p lpos pos : Pos} (hg : Gl X x) (hm : X.mg x = some (.ref g)) (hk : PySem.W.keepIn X.K (.ref g) = true)
    (lk : X.K.lookup g = some ⟨oc, od, .func (PySem.W.fnOf x x pg bg sg dV kV doc pm an cdv ct), osl⟩) (hcg : PySem.W.codeIn X.K cdv x = true) (hb : L2.Binds X.K (PySem.W.fnOf x x pg bg sg dV kV doc pm an cdv ct) [a] []) (Sg : FnScope Ng [a] sg) (hNg : Ng[0]? = some a) (hva : Vis sg a)
    (hG : GivesN X Ng x sg g cdv bg a (X.env.qual ++ "<lambda>") TT)
    (TB : TabB X.base X.mg c P) (hcode : X.env.code = .ref c) (hmT : (P, X.env.qual ++ "<lambda>") ∈ DL.TBS) (hu : ∀ p ∈ DL.TBS, p.1 = P → p.2 = X.env.qual ++ "<lambda>") (hr : Room (k + 2) X.A) (L : LamS X.env.scope scope) (hdef : defaultsOf params X.env = ([], []))
    (hbind : ∀ (q : Str) (cl : List (Str × Addr)) (pm cv ctv : Value), bindArgs (PySem.W.kla_fn "<lambda>" q params body scope cl pm cv ctv) ⟨[], []⟩ = pure [])
    (hbody : ∀ (A : Around) (outer : List Env) (s : Shared) (H : Hp) (E : XK) (f c' : Addr), Room k (A.deeper (lamEnv X scope s.heap.objs.size f c')) → PE (lamN X A outer s H E scope f c') body (t E))
    (hdb : (x == ("__debug__" : Str)) = false := by decide) (hd : (a == ("__debug__" : Str)) = false := by decide) (hcd : (a == ("__classdict__" : Str)) = false := by decide) :
    PE X (.Call (.Name x p) [.Lambda params body scope lpos] [] pos) (tLamT P TT t) := by
  refine ⟨fun pins s σ H Q I ⟨hT, h⟩ => ?_⟩
  refine wpAny_Call_Name_kw (ld_glob I hg hm ?_ hdb)
  refine PySem.W.callWith_K (h₀ := X.base) I.ok.mod.kin hk ?_ (by rfl) (by rfl)
  show wpAny _ _ (spliced ((false, eval (.Lambda params body scope lpos) X.env) :: backTo pos (starEach [] X.env))) _ _ s
  refine Calls.spliced_cons (lam_makeT TB hcode I hmT hu hT hdef (L.has I.ok) fun f c' pm' ctv H1 s' I1 eN hfn hfr hco hf _ => ?_)
  refine Calls.spliced_nil ⟨I1.kIn, ?_⟩
  have rc : codeAny (model X.prog X.w) X.A (.call (.ref g) ⟨[.ref f], []⟩) (CR C8.CX0 X.stack X.prog X.w H1 s' Q C8.E0) s' := by
    refine run_ofS (N := Ng) (ps := [a]) (us := [.ref f]) (vs := [.ref f]) lk hcg Sg hr I1.env0 (hb s' [.ref f] I1.kIn rfl) (.cons rfl .nil) rfl fun hr' => ?_
    obtain ⟨t', ht', hq'⟩ := hG k f c' s' H1 Q (fun E H' Q' => t E σ H' Q') hr' (fun W pn xe E p1 p2 tk hW => act_N (i := 0) I1 L hf hfn hfr (hbind _ _ _ _ _) tk hW hr' (fun A outer s H hr2 => hbody A outer s H E f c' hr2) hNg hva hd hcd) hco (h H1 eN)
    exact ⟨t', ht'.nox, hq'⟩
  refine wpAny_call (codeAny_mono rc fun r s2 hq => ?_)
  cases r with
  | error e => exact (show False from hq).elim
  | ok fl =>
    cases fl with
    | ret u => exact I1.after hq
    | next => exact False.elim hq
    | brk => exact False.elim hq
    | cont => exact False.elim hq
end
end
end HD
set_option Elab.async false
set_option linter.all false
set_option maxRecDepth 100000
set_option maxHeartbeats 2000000
namespace HD
open PySem PySem.Spec PyProof.Rows L2 L2H HotX LamX
variable [DL.TabCtx]
section
variable {X : Cx}
theorem pss_never {Y : Cx} {sts : List Stmt} : PSs Y sts (fun _ _ _ => False) := ⟨fun _ _ _ _ _ _ h => h.elim⟩
end
end HD
set_option Elab.async false
set_option linter.all false
set_option maxRecDepth 100000
set_option maxHeartbeats 2000000
set_option Elab.async false
set_option linter.all false
set_option maxRecDepth 100000
set_option maxHeartbeats 2000000
set_option Elab.async false
set_option linter.all false
set_option maxRecDepth 100000
set_option maxHeartbeats 2000000
namespace HD
open PySem PySem.Spec PyProof.Rows L2 L2H HotX LamX DL
variable [TabCtx]
/-- the refusals but Clash -/
def excs : List Str := ["BadChoir", "BadName", "BadStanding", "BadNumber", "BadRows", "BadLead", "BadWish", "Nothing", "Full", "BadText"]
def excs1 : List Str := ["BadChoir", "BadName", "BadStanding", "BadNumber", "BadRows", "BadLead", "BadWish", "Clash", "Nothing", "Full", "BadText"]
/-- what the classes say -/
structure ExcT (K : PySem.W.Frag) : Prop where
  c : ∀ c ∈ excs, ExcC K (He.ga K c)
  k : ∀ c ∈ excs, ∀ d ∈ excs1, PySem.W.kitOne K (.ref (He.ga K c)) (.ref (He.ga K d)) = some (decide (c = d))
  v : ∀ c ∈ excs, PySem.W.kitOne K (.ref (He.ga K c)) (.type "ValueError") = some true
  m : ∀ c ∈ excs, PySem.W.exmOne K (.ref (He.ga K c)) (.ref (He.ga K "Clash")) = some false ∧ PySem.W.exmOne K (.ref (He.ga K c)) (.ref (He.ga K "SongError")) = some true
abbrev isE (c d : Str) : M PyData := cD (.bool (decide (c = d)))
theorem _root_.L2H.RoomH.units {k : Nat} {A : Around} (r : RoomH k A) : A.units + 64 < cLine := by have := r.un; omega
theorem _root_.L2H.RoomH.units0 {k : Nat} {A : Around} (r : RoomH k A) : A.units < cLine := by have := r.un; omega
def forget (ρ : Rho) : Rho := ρ.map fun s => match s with
  | .ow _ => .no
  | .ob _ => .no
  | t => t
theorem EnvR.forget {K : KW} {F : Fr} {H V : Hp} {σ : L2.St} {ρ : Rho} {E : XK} (e : EnvR K F H V σ ρ) : EnvR K (mkF H V E) H V σ (forget ρ) := by
  have at_ : ∀ {i : Nat} {t : Sl}, (HD.forget ρ)[i]? = some t → (∃ d, ρ[i]? = some (.sh d) ∧ t = .sh d) ∨ t = .no := fun {i t} h => by
    unfold HD.forget at h
    rw [List.getElem?_map] at h
    obtain ⟨u, h1, h2⟩ := Option.map_eq_some_iff.mp h
    cases u with
    | no => exact .inr h2.symm
    | ob _ => exact .inr h2.symm
    | sh d => exact .inl ⟨d, h1, h2.symm⟩
    | ow d => exact .inr h2.symm
  refine ⟨by rw [e.len]; simp [HD.forget], Ext.refl e.sub, fun i d h => ?_, fun i d h => ?_, fun i j a d d' h => ?_, (fun a h => by cases h), e.tabs, ObE.non fun i o h => by
    rcases at_ h with ⟨_, _, z⟩ | z <;> cases z⟩
  · rcases at_ h with ⟨d', h1, h2⟩ | z
    · cases h2; exact e.sh i d h1
    · cases z
  · rcases at_ h with ⟨d', h1, h2⟩ | z
    · cases h2
    · cases z
  · rcases at_ h with ⟨d', h1, h2⟩ | z
    · cases h2
    · cases z
/-- the def x makes lambdas: its code object and the table -/
structure LamAt (K : PySem.W.Frag) (mg : Str → Option Value) (base : Heap) (x : Str) (cdv : Value) (c P : Addr) : Prop where
  code : cdv = .ref c
  tab : TabB base mg c P
  mem : (P, x ++ ".<locals>." ++ "<lambda>") ∈ TBS
  uniq : ∀ p ∈ TBS, p.1 = P → p.2 = x ++ ".<locals>." ++ "<lambda>"
section
variable {X : Cx} {F : Fr}
theorem tk_lam {A : Around} {outer : List Env} {s : Shared} {H H' V : Hp} {E : XK} {scope : Scope} {f c' : Addr} : Tk (lamN X A outer s H E scope f c') (mkF H' V E) := by
  have t : L2N.Takes (lamN X A outer s H E scope f c') (fun cls d _ H' => E cls d H') := L2N.takes_of rfl rfl rfl rfl
  refine t.imp fun c d σ H' ⟨h1, h2⟩ => ?_
  rw [h1]
  exact h2
end
end HD
set_option Elab.async false
set_option linter.all false
set_option maxRecDepth 100000
set_option maxHeartbeats 2000000
namespace HD
open PySem PySem.Spec PyProof.Rows L2 L2H HotX LamX DL He
def lamQ (x : Str) : Str := x ++ ".<locals>." ++ "<lambda>"
def tabsL (K : PySem.W.Frag) (ls : List Str) : List (Addr × Str) := ls.filterMap fun x => (tabOf K x).map fun q => (q.2, lamQ x)
def codesL (K : PySem.W.Frag) (ls : List Str) : List (Addr × Addr) := ls.filterMap fun x => tabOf K x
def isStrV : Value → Bool
  | .str _ _ => true
  | _ => false
def isIntV : Value → Bool
  | .int _ _ => true
  | _ => false
def isBoolV : Value → Bool
  | .bool _ => true
  | _ => false
def codeB (K : PySem.W.Frag) (c P : Addr) : Bool := match K.lookup c with
  | some ⟨.type t, _, .fields vs, _⟩ => decide (t = "code") && (decide (vs[11]? = some (.ref P)) && (isStrV (vs.getD 18 .none) && (isIntV (vs.getD 7 .none) && (isBoolV (vs.getD 9 .none) && (isIntV (vs.getD 10 .none) && !(c == P))))))
  | _ => false
def emptyTab : Option Obj → Bool
  | some ⟨.none, none, .fields vs, sl⟩ => vs.isEmpty && sl.isEmpty
  | _ => false
def lamB (g : Addr → Option Obj) (K : PySem.W.Frag) (ls : List Str) : Bool := (ls.all fun x => match tabOf K x with
  | some q => codeB K q.1 q.2 && (emptyTab (g q.2) && (K.lookup q.2).isNone)
  | none => false) && (((codesL K ls).map (·.2)).eraseDups.length == ls.length)
theorem codeB_ok {K : PySem.W.Frag} {h : Heap} (X : K.In h) {c P : Addr} (e : codeB K c P = true) : PySem.W.CodeHd h c P := by
  unfold codeB at e
  split at e
  · rename_i t od vs sl q
    obtain ⟨e1, e⟩ := ba e
    obtain ⟨e2, e⟩ := ba e
    obtain ⟨e3, e⟩ := ba e
    obtain ⟨e4, e⟩ := ba e
    obtain ⟨e5, e⟩ := ba e
    obtain ⟨e6, e7⟩ := ba e
    have e2 : vs[11]? = some (.ref P) := of_decide_eq_true e2
    have e1 : t = "code" := of_decide_eq_true e1
    subst e1
    have ne : c ≠ P := fun z => by rw [z] at e7; simp at e7
    have s1 : ∃ a b, vs.getD 18 .none = .str a b := by
      cases z : vs.getD 18 .none <;> rw [z] at e3 <;> first | exact ⟨_, _, rfl⟩ | cases e3
    have s2 : ∃ a b, vs.getD 7 .none = .int a b := by
      cases z : vs.getD 7 .none <;> rw [z] at e4 <;> first | exact ⟨_, _, rfl⟩ | cases e4
    have s3 : ∃ a, vs.getD 9 .none = .bool a := by
      cases z : vs.getD 9 .none <;> rw [z] at e5 <;> first | exact ⟨_, rfl⟩ | cases e5
    have s4 : ∃ a b, vs.getD 10 .none = .int a b := by
      cases z : vs.getD 10 .none <;> rw [z] at e6 <;> first | exact ⟨_, _, rfl⟩ | cases e6
    obtain ⟨a1, a2, s1⟩ := s1
    obtain ⟨b1, b2, s2⟩ := s2
    obtain ⟨c1, s3⟩ := s3
    obtain ⟨d1, d2, s4⟩ := s4
    refine ⟨_, vs, a1, a2, b1, b2, c1, d1, d2, X _ _ q, rfl, rfl, e2, ?_, s1, s2, s3, s4, ne⟩
    simp only [Array.getD_eq_getD_getElem?, e2]; rfl
  · cases e
theorem emptyTab_ok {o : Option Obj} (e : emptyTab o = true) : o = some { cls := .none, data := .fields #[] } := by
  unfold emptyTab at e
  split at e
  · obtain ⟨e1, e2⟩ := ba e
    rw [Array.isEmpty_iff.mp e1, Array.isEmpty_iff.mp e2]
  · cases e
/-- what is known of the defs that make lambdas -/
structure LamSays (K : PySem.W.Frag) (h : Heap) (ls : List Str) : Prop where
  at_ : ∀ x ∈ ls, ∃ c P, tabOf K x = some (c, P)
  tab : ∀ p ∈ codesL K ls, h.get? p.2 = some { cls := .none, data := .fields #[] } ∧ K.lookup p.2 = none ∧ PySem.W.CodeHd h p.1 p.2
  uniq : ((codesL K ls).map (·.2)).eraseDups.length = ls.length
theorem lamB_ok {K : PySem.W.Frag} {h : Heap} (X : K.In h) {ls : List Str} (e : lamB h.get? K ls = true) : LamSays K h ls := by
  obtain ⟨e1, e2⟩ := ba e
  have all := List.all_eq_true.mp e1
  refine ⟨fun x hx => ?_, fun p hp => ?_, by simpa using e2⟩
  · have := all x hx
    cases q : tabOf K x with
    | none => rw [q] at this; cases this
    | some r => exact ⟨r.1, r.2, rfl⟩
  · obtain ⟨x, hx, q⟩ := List.mem_filterMap.mp hp
    have := all x hx
    rw [q] at this
    obtain ⟨h1, h2⟩ := ba this
    obtain ⟨h2, h3⟩ := ba h2
    exact ⟨emptyTab_ok h2, by simpa using h3, codeB_ok X h1⟩
theorem LamSays.keeps {K : PySem.W.Frag} {h h' : Heap} {ls : List Str} (L : LamSays K h ls) (k : ∀ b o, h.get? b = some o → h'.get? b = some o) : LamSays K h' ls :=
  ⟨L.at_, fun p hp => ⟨k _ _ (L.tab p hp).1, (L.tab p hp).2.1, (L.tab p hp).2.2.keeps k⟩, L.uniq⟩
theorem erase_len {α β : Type} [BEq β] [LawfulBEq β] (l : List α) (f : α → Option β) (h : (l.filterMap f).eraseDups.length = l.length) : (l.filterMap f).Nodup := by
  have h1 : (l.filterMap f).length ≤ l.length := List.length_filterMap_le f l
  have h2 : ∀ m : List β, m.eraseDups.length ≤ m.length ∧ (m.eraseDups.length = m.length → m.Nodup) := by
    intro m
    induction hm : m.length using Nat.strongRecOn generalizing m with
    | _ n ih =>
      cases m with
      | nil => simp [List.eraseDups] at *
      | cons a r =>
        rw [List.eraseDups_cons]
        have hl := List.length_filter_le (fun b => !b == a) r
        have ih1 := ih (r.filter fun b => !b == a).length (by rw [← hm]; simp only [List.length_cons]; omega) _ rfl
        refine ⟨by rw [← hm]; simp only [List.length_cons]; omega, fun e => ?_⟩
        rw [← hm] at e
        simp only [List.length_cons] at e
        have ef : (r.filter fun b => !b == a).length = r.length := by omega
        have eq : r.filter (fun b => !b == a) = r := List.filter_eq_self.mpr (List.length_filter_eq_length_iff.mp ef)
        refine List.nodup_cons.mpr ⟨fun ha => ?_, ?_⟩
        · have := List.length_filter_eq_length_iff.mp ef a ha
          simp at this
        · have := ih1.2 (by omega)
          rw [eq] at this
          exact this
  exact (h2 _).2 (by have := (h2 (l.filterMap f)).1; omega)
def excB (K : PySem.W.Frag) : Bool := excs.all fun c =>
  (eqO (PySem.W.findIn K (.ref (ga K c)) "__getattribute__") (some (some (.builtin "BaseException.__getattribute__"))) && (eqO (PySem.W.findIn K (.ref (ga K c)) "__getattr__") (some none) && (decide (PySem.W.subIn K (.ref (ga K c)) (.type "BaseException") = some true) &&
    (PySem.W.hasDictIn K (ga K c) && (eqO (PySem.W.findIn K (.ref (ga K c)) "__class__") (some (some (.builtin "object.__class__"))) && (eqO (PySem.W.specialIn K (.builtin "object.__class__") "__get__") (some (some (.builtin "getset_descriptor.__get__"))) &&
      (decide (PySem.W.takesIn K (.builtin "object.__class__") = some true) && decide (PySem.W.mroIn K (ga K c) (.type "object") = some true)))))))) &&
  ((excs1.all fun d => decide (PySem.W.kitOne K (.ref (ga K c)) (.ref (ga K d)) = some (decide (c = d)))) && (decide (PySem.W.kitOne K (.ref (ga K c)) (.type "ValueError") = some true) &&
    (decide (PySem.W.exmOne K (.ref (ga K c)) (.ref (ga K "Clash")) = some false) && decide (PySem.W.exmOne K (.ref (ga K c)) (.ref (ga K "SongError")) = some true))))
theorem excB_ok {K : PySem.W.Frag} (e : excB K = true) : ExcT K := by
  have all := List.all_eq_true.mp e
  refine ⟨fun c hc => ?_, fun c hc d hd => ?_, fun c hc => ?_, fun c hc => ?_⟩
  · obtain ⟨e, _⟩ := ba (all c hc)
    obtain ⟨e1, e⟩ := ba e
    obtain ⟨e2, e⟩ := ba e
    obtain ⟨e3, e⟩ := ba e
    obtain ⟨e4, e⟩ := ba e
    obtain ⟨e5, e⟩ := ba e
    obtain ⟨e6, e⟩ := ba e
    obtain ⟨e7, e8⟩ := ba e
    exact ⟨eqO_ok e1, eqO_ok e2, of_decide_eq_true e3, e4, eqO_ok e5, eqO_ok e6, of_decide_eq_true e7, of_decide_eq_true e8⟩
  · obtain ⟨_, e⟩ := ba (all c hc)
    obtain ⟨e1, _⟩ := ba e
    exact of_decide_eq_true (List.all_eq_true.mp e1 d hd)
  · obtain ⟨_, e⟩ := ba (all c hc)
    obtain ⟨_, e⟩ := ba e
    obtain ⟨e1, _⟩ := ba e
    exact of_decide_eq_true e1
  · obtain ⟨_, e⟩ := ba (all c hc)
    obtain ⟨_, e⟩ := ba e
    obtain ⟨_, e⟩ := ba e
    obtain ⟨e1, e2⟩ := ba e
    exact ⟨of_decide_eq_true e1, of_decide_eq_true e2⟩
/-- the tables of a law -/
@[reducible] def ctxL (K : PySem.W.Frag) (ls : List Str) : TabCtx := ⟨tabsL K ls⟩
theorem lamAt_of {K : PySem.W.Frag} {h : Heap} {ls : List Str} {mg : Str → Option Value} {base : Heap} (L : LamSays K h ls) (TB : ∀ p ∈ codesL K ls, TabB base mg p.1 p.2) {x : Str} (hx : x ∈ ls) {fd : FuncData} {oc : Value} {od : Option Addr} {osl : Array (Option Value)} (lk : K.lookup (ga K x) = some ⟨oc, od, .func fd, osl⟩) :
    letI := ctxL K ls; ∃ c P, LamAt K mg base x fd.code c P := by
  letI := ctxL K ls
  obtain ⟨c, P, e⟩ := L.at_ x hx
  have mem : (c, P) ∈ codesL K ls := List.mem_filterMap.mpr ⟨x, hx, e⟩
  have mT : (P, lamQ x) ∈ tabsL K ls := List.mem_filterMap.mpr ⟨x, hx, by rw [e]; rfl⟩
  refine ⟨c, P, ?_, TB _ mem, mT, fun p hp ep => ?_⟩
  · unfold tabOf at e
    rw [lk] at e
    dsimp only at e
    split at e
    · rename_i c' ec
      split at e
      · split at e
        · cases e; exact ec
        · cases e
      · cases e
    · cases e
  · obtain ⟨y, hy, ey⟩ := List.mem_filterMap.mp (show p ∈ tabsL K ls from hp)
    obtain ⟨q, e3, e4⟩ := Option.map_eq_some_iff.mp ey
    subst e4
    have nd : (ls.filterMap fun x => (tabOf K x).map (·.2)).Nodup := by
      refine erase_len ls _ ?_
      have z := L.uniq
      unfold codesL at z
      rw [List.map_filterMap] at z
      exact z
    -- two of them at one place are one
    have key : ∀ l : List Str, (l.filterMap fun x => (tabOf K x).map (·.2)).Nodup → x ∈ l → y ∈ l → x = y := by
      intro l
      induction l with
      | nil => intro _ h; cases h
      | cons z r ih =>
        intro nd h1 h2
        have mm : ∀ {u : Str} {q : Addr × Addr}, tabOf K u = some q → u ∈ r → q.2 ∈ r.filterMap fun x => (tabOf K x).map (·.2) := fun {u q} h1 h2 => List.mem_filterMap.mpr ⟨u, h2, by rw [h1]; rfl⟩
        rcases List.mem_cons.mp h1 with rfl | h3
        · rcases List.mem_cons.mp h2 with rfl | h2
          · rfl
          · rw [List.filterMap_cons, e] at nd
            exact absurd (by have := mm e3 h2; rw [show q.2 = P from ep] at this; exact this) (List.nodup_cons.mp nd).1
        · rcases List.mem_cons.mp h2 with rfl | h2
          · rw [List.filterMap_cons, e3] at nd
            exact absurd (by have := mm e h3; rw [← (show q.2 = P from ep)] at this; exact this) (List.nodup_cons.mp nd).1
          · refine ih ?_ h3 h2
            rw [List.filterMap_cons] at nd
            cases ez : (tabOf K z).map (·.2) with
            | none => rw [ez] at nd; exact nd
            | some w => rw [ez] at nd; exact (List.nodup_cons.mp nd).2
    have := key ls nd hx hy
    subst this
    rfl
theorem tabs_start {K : PySem.W.Frag} {ls : List Str} {H : Hp} (hH : ∀ p ∈ codesL K ls, H p.2 = some (.tbl #[])) : Tabs (tabsL K ls) H := fun p hp => by
  obtain ⟨x, hx, e⟩ := List.mem_filterMap.mp hp
  obtain ⟨q, e1, e2⟩ := Option.map_eq_some_iff.mp e
  subst e2
  exact TabS.nil (hH q (List.mem_filterMap.mpr ⟨x, hx, e1⟩))
end HD
set_option Elab.async false
set_option linter.all false
set_option maxRecDepth 100000
set_option maxHeartbeats 2000000
namespace HD
open PySem PySem.Spec PyProof.Rows L2 L2H HotX LamX DL
/-- the class above, its __init__ read off it -/
structure VeC (K : PySem.W.Frag) (S : Addr) : Prop where
  ga : PySem.W.specialIn K (.ref S) "__getattribute__" = some (some (.builtin "type.__getattribute__"))
  rd : PySem.W.readsIn K S (.type "type") = true
  ty : PySem.W.typeIn K (.ref S) = some (.type "type")
  vi : PySem.W.findCls K (.ref S) (.type "type") "__init__" = some (.val (.builtin "ValueError.__init__"))
theorem pe_sinit {X : Cx} {e : Expr} {es : List Expr} {ta : TA} {x : Str} {S : Addr} {p1 p2 pos : Pos} {pl : Sem Bool} (T : VeC X.K S) (hg : Gl X x) (hm : X.mg x = some (.ref S)) (ha : PA X (e :: es) ta) (hdb : (x == ("__debug__" : Str)) = false := by decide)
    (hc : eval (.Call (.Attribute (.Name x p1) "__init__" p2) (e :: es) [] pos) X.env = (do
      let ov ← eval (.Name x p1) X.env
      standAt p2.atName
      let (f, first) ← holding [ov] (getMethod ov "__init__" pl)
      callWith pos f first (backTo pos (starEach (e :: es) X.env)) (backToKw pos (keywordEach [] X.env))) := by rfl)
    (he : starEach (e :: es) X.env = (false, eval e X.env) :: starEach es X.env := by rfl) (hpl : (backTo pos (starEach es X.env)).any (·.1) = false := by rfl) :
    PE X (.Call (.Attribute (.Name x p1) "__init__" p2) (e :: es) [] pos) (tVeI X.K ta) := by
  refine ⟨fun pins s σ H Q I h => ?_⟩
  refine PySem.W.methodCall_KW (ld_glob I hg hm ?_ hdb) hc
  obtain ⟨mm, fr0⟩ := I.fr
  refine PySem.W.method_of_cls fr0 I.ok.mod.kin T.ga (PySem.W.cls_val fr0 I.ok.mod.kin T.ty T.rd T.vi (by decide +kernel) ?_)
  show wpAny _ _ (callWith pos (Value.builtin "ValueError.__init__") [] (backTo pos (starEach (e :: es) X.env)) []) _ _ _
  refine PyProof.Rows.callWith_method1 (thn (ha.run pos pins _ σ H _ (I.tok _) h) fun us s1 ⟨vs, H1, I1, r1, a, C, ws, ev, hl, T, ea, q⟩ => ?_) he hpl
  subst ev
  cases r1 with
  | @cons _ v0 _ vr ra rw' =>
    obtain rfl : v0 = Value.ref a := ra
    have hlen : vr.length ≤ sizeLine := by
      have e0 := Paired.length rw'
      have z1 := sizeLine_eq
      omega
    exact oinit_ok T I1 ea hlen fun s2 J => ⟨.non, H1, J, rfl, q⟩
/-- an own exception class with own __init__, called: the exception's context is None -/
theorem pmkN_oex {X : Cx} {e : Expr} {es : List Expr} {ta : TA} {p pos : Pos} {CX : CXT} {x : Str} {C fI : Addr} {k : Nat} {fd : FuncData} {ps : List Str} {sp : Sp} (T : OexC X.K C) (iC : PySem.W.findIn X.K (.ref C) "__init__" = some (some (.ref fI))) (tI : PySem.W.typeIn X.K (.ref fI) = some (.type "function"))
    (F1 : FnOk X.prog X.w X.K X.mg X.base CX k fI fd ps sp) (hr : Room (k + 1) X.A) (hb : L2.Binds X.K fd ps []) (hx : Passes CX X (fun _ _ _ => False)) (hg : Gl X x) (hm : X.mg x = some (.ref C)) (ha : PA X (e :: es) ta)
    (hdb : (x == ("__debug__" : Str)) = false := by decide) (he : starEach (e :: es) X.env = (false, eval e X.env) :: starEach es X.env := by rfl) (hpl : (backTo pos (starEach es X.env)).any (·.1) = false := by rfl) :
    L2N.PMk X (.Call (.Name x p) (e :: es) [] pos) (tMkO C sp [] ta) := by
  intro pins s σ H Q I h
  obtain ⟨nm, q, N, bs, bm, sn, sub, ab, col, dd, k0, k1, k2, k3, k5, hC, hbm⟩ := T.cls
  refine wpAny_Call_Name_kw (ld_glob I hg hm ?_ hdb)
  refine PySem.W.callWith_K (h₀ := X.base) I.ok.mod.kin T.kC (thn (ha.run pos pins s σ H _ I h) fun us s1 ⟨vs, H1, I1, r1, hz, q1⟩ => ⟨I1.kIn, ?_⟩) he hpl
  show wpAny _ _ (call (.ref C) us) _ _ _
  obtain ⟨hp, g, dr, tk, os⟩ := s1
  have hs1 : hp.objs.size ≤ hp.objs.size + 1 := Nat.le_succ _
  have hn1 : H1 (hp.objs.size + 1) = none := I1.hok.fresh hs1
  have hq := q1 (hp.objs.size + 1) hn1
  rw [List.append_nil] at hq
  have kk : ∀ b o, hp.get? b = some o → ((hp.push (PySem.W.kdv_tup us)).push (PySem.HandSPX.excO C hp.objs.size)).get? b = some o := fun b o e2 => Heap.get?_push_of_some _ (Heap.get?_push_of_some _ e2)
  have hat : ((hp.push (PySem.W.kdv_tup us)).push (PySem.HandSPX.excO C hp.objs.size)).get? (hp.objs.size + 1) = some (PySem.HandSPX.excO C hp.objs.size) := by heap_get
  have J2 : Inv X pins σ (upd H1 (hp.objs.size + 1) (exo (hp.objs.size + 1) C none)) ⟨(hp.push (PySem.W.kdv_tup us)).push (PySem.HandSPX.excO C hp.objs.size), g, dr, tk, os⟩ :=
    I1.laid (t' := tk) (a := hp.objs.size + 1) (o := exo (hp.objs.size + 1) C none) (h' := (hp.push (PySem.W.kdv_tup us)).push (PySem.HandSPX.excO C hp.objs.size)) kk hs1 (exo_ok hat)
  have rr : Vals (V.ref (hp.objs.size + 1) :: vs) (Value.ref (hp.objs.size + 1) :: us) := .cons rfl r1
  have hll : (Value.ref (hp.objs.size + 1) :: us).length = ps.length := by
    have e2 := rr.length
    rw [F1.len _ _ _ _ hq] at e2
    exact e2.symm
  have hul : us.length ≤ sizeLine := by
    have e0 := Paired.length r1
    have z1 := sizeLine_eq
    omega
  have bb := hb _ (Value.ref (hp.objs.size + 1) :: us) J2.kIn (by rw [List.append_nil]; exact hll)
  rw [List.append_nil] at bb
  refine wpAny_call (PySem.HandSPX.call_own F.excBase_ValueError (fun Y => PySem.HandSPX.refsVE_contains Y bm hbm) (I1.kIn _ _ hC) (PySem.W.looks_findIn I1.kIn iC) (fun self => PySem.W.bind_fn I1.kIn self tI) hul
    (codeAny_mono (F1.run _ X.stack _ _ ⟨Value.ref (hp.objs.size + 1) :: us, []⟩ (Value.ref (hp.objs.size + 1) :: us) _ _ (fun _ _ _ => False) (hr.make C us []) (J2.env0.make C us []) bb rr hq) fun r s' hq' => ?_))
  cases r with
  | error er => exact hx pins σ _ _ er s' J2 hq'
  | ok fl =>
    cases fl with
    | ret u =>
      obtain ⟨v, H2, os2, bare2, un2, hok2, rv, ev, d, fs, ea, ed, hd1, q2⟩ := hq'
      subst ev
      obtain ⟨h2, g2, d2, t2, os'⟩ := s'
      obtain ⟨t0, G, J, kG, ge, hoe, na⟩ := mk_end0 (d2 := d2) (t2 := t2) I1 hs1 kk un2 hok2 os2 bare2 ea ed hd1
      refine ⟨rv, ⟨hp.objs.size + 1, _, _, ⟨G, g2, d2, t2, os'⟩, _, .ref C, some d, rfl, J, kG, ge, hoe, ⟨rfl, rfl, fun vs hv => ?_⟩, rfl, rfl, na, rfl, bare2, raises_own T.exC T.tyC, q2⟩⟩
      cases hv
      rfl
    | next => exact False.elim hq'
    | brk => exact False.elim hq'
    | cont => exact False.elim hq'
abbrev aCl (K : PySem.W.Frag) : Addr := He.ga K "Clash"
abbrev aSE (K : PySem.W.Frag) : Addr := He.ga K "SongError"
abbrev aIn (K : PySem.W.Frag) : Addr := He.fAd K ("Clash", some "__init__")
structure ClK (K : PySem.W.Frag) : Prop where
  ox : OexC K (aCl K)
  init : PySem.W.findIn K (.ref (aCl K)) "__init__" = some (some (.ref (aIn K)))
  ity : PySem.W.typeIn K (.ref (aIn K)) = some (.type "function")
  nb : PySem.W.findIn K (.ref (aCl K)) "beats" = some none
  ve : VeC K (aSE K)
  xf : XfC K (aCl K)
  ec : ExcC K (aCl K)
  k : ∀ d ∈ excs1, PySem.W.kitOne K (.ref (aCl K)) (.ref (He.ga K d)) = some (decide ("Clash" = d))
  v : PySem.W.kitOne K (.ref (aCl K)) (.type "ValueError") = some true
  m : PySem.W.exmOne K (.ref (aCl K)) (.ref (aCl K)) = some true ∧ PySem.W.exmOne K (.ref (aCl K)) (.ref (aSE K)) = some true
def oexB (K : PySem.W.Frag) (C : Addr) : Bool := match K.lookup C with
  | some ⟨.type "type", _, .cls cd, sl⟩ => (match cd.mro, sl.toList with
    | .ref C2 :: bm, [_, _, _, _, some (.builtin n), _] => C2 == C && (n == "ValueError.__new__" && (!cd.hasDel && (cd.hasDict && PySem.HandSPX.refsVE bm)))
    | _, _ => false)
  | _ => false
theorem oexB_ok {K : PySem.W.Frag} {C : Addr} (e : oexB K C = true) : ∃ nm q N bs bm sn sub ab col dd k0 k1 k2 k3 k5, K.lookup C = some (excClassObj nm q C N bs bm true sn sub ab col dd k0 k1 k2 k3 k5 "ValueError.__new__") ∧ PySem.HandSPX.refsVE bm = true := by
  unfold oexB at e
  split at e
  · rename_i dd cd sl ho
    split at e
    · rename_i C2 bm k0 k1 k2 k3 n k5 hm hs
      obtain ⟨e1, e⟩ := He.ba e
      obtain ⟨e2, e⟩ := He.ba e
      obtain ⟨e3, e⟩ := He.ba e
      obtain ⟨e4, e5⟩ := He.ba e
      have e1 : C2 = C := eq_of_beq e1
      have e2 : n = "ValueError.__new__" := eq_of_beq e2
      have e6 : cd.hasDel = false := by simpa using e3
      clear e3 e
      subst e1 e2
      obtain ⟨nm, bs, mro, ns, qn, hd, sn, sub, ab, col, dl⟩ := cd
      dsimp only at hm e6 e4
      subst hm e6 e4
      have hsl : sl = #[k0, k1, k2, k3, some (.builtin "ValueError.__new__"), k5] := by
        obtain ⟨l⟩ := sl
        simp only at hs
        rw [hs]
      subst hsl
      exact ⟨nm, qn, ns, bs, bm, sn, sub, ab, col, dd, k0, k1, k2, k3, k5, ho, e5⟩
    · cases e
  · cases e
end HD
set_option Elab.async false
set_option linter.all false
set_option maxRecDepth 100000
set_option maxHeartbeats 2000000
namespace HD
open PySem PySem.Spec PyProof.Rows L2 L2H HotX LamX DL
theorem clsIn_of {K : PySem.W.Frag} {C : Addr} (h : PySem.W.hasDictIn K C = true) : (PySem.W.clsIn K C).isSome = true := by
  obtain ⟨cd, hc, _⟩ := PySem.W.any_some h
  rw [hc]
  rfl
variable [TabCtx]
end HD
set_option Elab.async false
set_option linter.all false
set_option maxRecDepth 100000
set_option maxHeartbeats 2000000
namespace HD
open PySem PySem.Spec PyProof.Rows L2 L2H HotX LamX DL
variable [TabCtx]
/-- a statement's end, or a Clash with data -/
inductive OX where
  | o (o : O)
  | cl (d : PyData)
abbrev SX := Rho → OX
inductive RX where
  | ok (d : PyData)
  | exc (c : Str)
  | cl (d : PyData)
  | bad
def clEnd (K : KW) (H V : Hp) (E : XK) (d : PyData) : Prop := ∀ H' V' dd fs y, Ext H V H' V' → H' dd = some (.xd fs) → fs.lookup ("beats" : Str) = some y → Rep K V' y d → E (.ref (aCl K)) (some dd) H'
def GoalX (K : KW) (F : Fr) (E : XK) (V : Hp) (o : OX) (D : Ends) : Prop := match o with
  | .o o => GoalS K F V o D
  | .cl d => clEnd K F.H0 F.V0 E d
theorem GoalX.mono {K : KW} {F : Fr} {E : XK} {V V1 : Hp} {o : OX} {D : Ends} (v : Same V V1) (g : GoalX K F E V o D) : GoalX K F E V1 o D := by
  cases o with
  | o o => exact GoalS.mono v g
  | cl d => exact g
def tSX (K : KW) (F : Fr) (E : XK) (f : SX) : TS := fun D σ H => ∃ V ρ, EnvR K F H V σ ρ ∧ GoalX K F E V (f ρ) D
def PMX (X : Cx) (F : Fr) (E : XK) (st : Stmt) (f : SX) : Prop := PS X st (tSX X.kw F E f)
def PMXs (X : Cx) (F : Fr) (E : XK) (sts : List Stmt) (f : SX) : Prop := PSs X sts (tSX X.kw F E f)
def upX (f : SM) : SX := fun ρ => .o (f ρ)
def seqX (f g : SX) : SX := fun ρ => match f ρ with
  | .o (.nx ρ') => g ρ'
  | x => x
def ifX (t : M Bool) (f g : SX) : SX := fun ρ => match t ρ with
  | .ok (b, ρ') => if b = true then f ρ' else g ρ'
  | .exc c => .o (.exc c)
  | .bad => .o .bad
def raiseX (a : M PyData) : SX := fun ρ => match a ρ with
  | .ok (d, _) => .cl d
  | .exc c => .o (.exc c)
  | .bad => .o .bad
section
variable {X : Cx} {F : Fr} {E : XK} {st : Stmt} {rest sts : List Stmt} {f g : SX} {e : Expr} {fa : M PyData} {ft : M Bool} {pos : Pos}
theorem pmx_up {f : SM} (h : PMS X F st f) : PMX X F E st (upX f) := h
theorem pmx_ups {f : SM} (h : PMSs X F sts f) : PMXs X F E sts (upX f) := h
theorem pmx_one (h : PMX X F E st f) : PMXs X F E [st] f := pss_one h
theorem pmx_cons (h1 : PMX X F E st f) (h2 : PMXs X F E rest g) : PMXs X F E (st :: rest) (seqX f g) := by
  refine DL.PSs.imp (pss_cons h1 h2) fun D σ H ⟨V, ρ, Ee, g0⟩ => ⟨V, ρ, Ee, ?_⟩
  unfold seqX at g0
  cases e : f ρ with
  | cl d => rw [e] at g0; exact g0
  | o o =>
    rw [e] at g0
    cases o with
    | nx ρ' => exact fun σ' H' V' E' v => ⟨V', ρ', E', GoalX.mono v g0⟩
    | rt d ρ' => exact g0
    | rf d ρ' => exact g0
    | bk ρ' => exact g0
    | ct ρ' => exact g0
    | exc c => exact g0
    | bad => exact g0
theorem pmx_if {c : Expr} {a b : List Stmt} (hc : PMT X F c ft) (ha : PMXs X F E a f) (hb : PMXs X F E b g) : PMX X F E (.If c a b pos) (ifX ft f g) := by
  refine DL.PS.imp (ps_if hc ha hb) fun D σ H ⟨V, ρ, Ee, g0⟩ => ⟨V, ρ, Ee, ?_⟩
  unfold ifX at g0
  cases e : ft ρ with
  | exc c => rw [e] at g0; exact fun H' V' x => g0 σ H' V' x
  | bad => rw [e] at g0; exact g0
  | ok pr =>
    obtain ⟨b0, ρ'⟩ := pr
    rw [e] at g0
    intro v H1 V1 st1 r1
    subst r1
    cases v with
    | true => exact ⟨V1, ρ', st1.env, GoalX.mono st1.v g0⟩
    | false => exact ⟨V1, ρ', st1.env, GoalX.mono st1.v g0⟩
end
def spCl (K : KW) : Sp := fun vs H Q _ => ∃ a y, vs = [.ref a, y] ∧ H a = some (exo a (aCl K) none) ∧ ∀ d, H d = none → d ≠ a → Q .non (upd (upd H d (exd d [("beats", y)])) a (exo a (aCl K) (some d)))
def tInit (K : KW) : TS := fun D σ H => ∃ a y, σ[0]? = some (some (.ref a)) ∧ σ[1]? = some (some y) ∧ H a = some (exo a (aCl K) none) ∧ ∀ d, H d = none → d ≠ a → D.nx σ (upd (upd H d (exd d [("beats", y)])) a (exo a (aCl K) (some d)))
theorem init_body {X : Cx} {m : Str} {j : Nat} {p1 p2 p3 p4 p5 p6 p7 p8 p9 p10 : Pos} {pl : Sem Bool} (CK : ClK X.K) (hm : X.mg "SongError" = some (.ref (aSE X.K))) (hN0 : X.N[0]? = some ("self" : Str)) (hN1 : X.N[1]? = some ("beats" : Str)) (hv0 : Vis X.env.scope "self") (hv1 : Vis X.env.scope "beats") (hg : Gl X "SongError")
    (hc : eval (.Call (.Attribute (.Name "SongError" p1) "__init__" p2) [.Name "self" p3, .Constant (.str m) j p4] [] p5) X.env = (do
      let ov ← eval (.Name "SongError" p1) X.env
      standAt p2.atName
      let (f, first) ← holding [ov] (getMethod ov "__init__" pl)
      callWith p5 f first (backTo p5 (starEach [.Name "self" p3, .Constant (.str m) j p4] X.env)) (backToKw p5 (keywordEach [] X.env))))
    (hs1 : swapsWith (.Call (.Attribute (.Name "SongError" p1) "__init__" p2) [.Name "self" p3, .Constant (.str m) j p4] [] p5) none p6.line X.env = pure false) (hs2 : swapsWith (.Name "beats" p9) (some (.Attribute (.Name "self" p7) "beats" p8)) p10.line X.env = pure false)
    (he : starEach [.Name "self" p3, .Constant (.str m) j p4] X.env = (false, eval (.Name "self" p3) X.env) :: starEach [.Constant (.str m) j p4] X.env) (he2 : starEach [.Constant (.str m) j p4] X.env = (false, eval (.Constant (.str m) j p4) X.env) :: starEach [] X.env) (hpl : (backTo p5 (starEach [.Constant (.str m) j p4] X.env)).any (·.1) = false) :
    PSs X [.Expr (.Call (.Attribute (.Name "SongError" p1) "__init__" p2) [.Name "self" p3, .Constant (.str m) j p4] [] p5) p6, .Assign [.Attribute (.Name "self" p7) "beats" p8] (.Name "beats" p9) p10] (tInit X.kw) := by
  refine DL.PSs.imp (pss_cons (ps_expr (pe_sinit CK.ve hg hm (pa_cons (pe_var hN0 hv0) (pa_cons pe_str pa_nil he2) he) (by decide) hc he hpl) hs1) (pss_one (ps_ost (pe_var hN0 hv0) (pe_var hN1 hv1) hs2))) fun D σ H ⟨a, y, h0, h1, ha, h⟩ => ?_
  refine ⟨.ref a, h0, a, aCl X.K, _, rfl, (by decide : 1 ≤ 1000), CK.ox, ha, ?_⟩
  exact ⟨y, h1, .ref a, h0, a, aCl X.K, rfl, CK.ox, CK.nb, .inl ⟨ha, h⟩⟩
section
variable {P : Program} {w : World} {K : PySem.W.Frag} {mg : Str → Option Value} {base : Heap} {params : Arguments} {body : List Stmt} {scope : Scope} {fd : FuncData}
/-- Clash.__init__ as a def -/
def FnCl (P : Program) (w : World) (K : PySem.W.Frag) (mg : Str → Option Value) (base : Heap) (lvl : Nat) : Prop := ∃ fd, FnOk P w K mg base (L2N.CX P w) lvl (aIn K) fd ["self", "beats"] (spCl ⟨K, w⟩) ∧ Binds K fd ["self", "beats"] []
theorem init_mk {k : Nat} (D : FunD K "__init__" "Clash.__init__" params body scope [] [] (aIn K) fd) (S : FnScope ["self", "beats"] ["self", "beats"] scope)
    (hbd : ∀ (kV doc pm : Value) (an : Option Addr) (cdv ct : Value) (us : List Value), us.length = (["self", "beats"] : List Str).length → bindArgs (PySem.W.fnOf "__init__" "Clash.__init__" params body scope .none kV doc pm an cdv ct) ⟨us, []⟩ = pure ((["self", "beats"] : List Str).zip us))
    (hb : ∀ (cdv : Value) (A : Around) (outer : List Env) (s : Shared) (H : Hp) (E : XK), PSs (cxOf (L2N.CX P w) P w K mg base ["self", "beats"] "Clash.__init__" scope (aIn K) cdv A outer s H E) body (tInit ⟨K, w⟩)) : FnCl P w K mg base (k + 1) := by
  refine ⟨fd, D.ok (CX := L2N.CX P w) S (fun vs H Q E h => ?_) (fun cdv A outer s H vs Q E hr h => ⟨_, hb cdv A outer s H E, ?_⟩), D.bindsN hbd⟩
  · obtain ⟨a, y, rfl, _⟩ := h; rfl
  · obtain ⟨a, y, rfl, ha, h⟩ := h
    exact ⟨a, y, rfl, rfl, ha, h⟩
end
theorem pmx_raise {X : Cx} {F : Fr} {E : XK} {k : Nat} {e : Expr} {fa : M PyData} {p pos2 pos : Pos} (CK : ClK X.K) (G : FnCl X.prog X.w X.K X.mg X.base k) (hr : Room (k + 1) X.A) (tk : L2N.Takes X (fun cls d _ H' => E cls d H')) (hm : X.mg "Clash" = some (.ref (aCl X.K))) (ha : PM X F e fa) (hc : X.calm = true := by rfl) (hg : Gl X "Clash" := by rfl)
    (he : starEach [e] X.env = (false, eval e X.env) :: starEach [] X.env := by rfl) (hpl : (backTo pos2 (starEach [] X.env)).any (·.1) = false := by rfl) : PMX X F E (.Raise (some (.Call (.Name "Clash" p) [e] [] pos2)) none pos) (raiseX fa) := by
  obtain ⟨fd, G1, G2⟩ := G
  refine DL.PS.imp (L2N.ps_raise hc tk (pmkN_oex CK.ox CK.init CK.ity G1 hr G2 (fun pins σ H s e s' I c => L2N.passAt takesN0 σ pins H s e s' I c) hg hm (pma_cons ha pma_nil he) (by decide) he hpl)) fun D σ H ⟨V, ρ, E0, g⟩ => ⟨V, ρ, E0, ?_⟩
  unfold raiseX at g
  have key : (aC fa aN) ρ = (match fa ρ with
    | .ok (d, ρ') => .ok ([d], ρ')
    | .exc c => .exc c
    | .bad => .bad) := by
    unfold aC aN M.bind M.pure
    cases fa ρ <;> rfl
  rw [key]
  cases ef : fa ρ with
  | exc c => rw [ef] at g; exact fun H' V' x => g σ H' V' x
  | bad => rw [ef] at g; exact g.elim
  | ok pr =>
    obtain ⟨d, ρ1⟩ := pr
    rw [ef] at g
    have g : clEnd X.kw F.H0 F.V0 E d := g
    intro vs H1 V1 st1 r1
    cases r1 with
    | @cons v _ _ _ rv rn =>
      cases rn
      refine ⟨(by decide : 1 ≤ 1000), fun a ha1 => ⟨a, v, rfl, upd_same, fun dd hd hne => ⟨rfl, dd, [("beats", v)], upd_same, by rw [upd_ne hne, upd_same], by rw [upd_ne hne] at hd; exact hd, ?_⟩⟩⟩
      have hd1 : H1 dd = none := by rw [upd_ne hne] at hd; exact hd
      have eH : upd (del (upd (upd (upd H1 a (exo a (aCl X.kw) none)) dd (exd dd [("beats", v)])) a (exo a (aCl X.kw) (some dd))) a) dd (.xd [("beats", v)]) = upd H1 dd (.xd [("beats", v)]) := by
        funext b
        by_cases hb : b = dd
        · rw [hb, upd_same, upd_same]
        · rw [upd_ne hb, upd_ne hb]
          by_cases hba : b = a
          · rw [hba, del_same, ha1]
          · rw [del_ne hba, upd_ne hba, upd_ne hb, upd_ne hba]
      show E _ _ (upd (del (upd (upd (upd H1 a (exo a (aCl X.kw) none)) dd (exd dd [("beats", v)])) a (exo a (aCl X.kw) (some dd))) a) dd (.xd [("beats", v)]))
      rw [eH]
      exact g _ V1 dd [("beats", v)] v (st1.env.ext.trans (Ext.hid st1.env.sub hd1)) upd_same rfl rv
def fnRunX (k n : Nat) (f : SX) (ds : List PyData) : RX := if ds.length = k then (match f (start0 n ds) with
  | .o (.rt d _) => .ok d
  | .o (.rf d _) => .ok d
  | .o (.nx _) => .ok .none
  | .o (.exc c) => .exc c
  | .cl d => .cl d
  | _ => .bad) else .bad
def spX (K : KW) (n : Nat) (m : List PyData → RX) : Sp := fun vs H Q E => vs.length = n ∧ ∃ V ds, TabV H V ∧ Same V H ∧ RepL K V vs ds ∧ match m ds with
  | .ok d => ∀ v H' V', Ext H V H' V' → Rep K V' v d → Q v H'
  | .exc c => ∀ H' V', Ext H V H' V' → E (.ref (He.ga K c)) none H'
  | .cl d => clEnd K H V E d
  | .bad => False
def FnX (P : Program) (w : World) (K : PySem.W.Frag) (mg : Str → Option Value) (base : Heap) (lvl : Nat) (x : Str) (ps : List Str) (m : List PyData → RX) : Prop :=
  ∃ fd, FnOk P w K mg base (L2N.CX P w) lvl (He.ga K x) fd ps (spX ⟨K, w⟩ ps.length m) ∧ Binds K fd ps [] ∧ PySem.W.keepIn K (.ref (He.ga K x)) = true ∧ mg x = some (.ref (He.ga K x)) ∧ ∀ ds, m ds ≠ .bad → ds.length = ps.length
section
variable {P : Program} {w : World} {K : PySem.W.Frag} {mg : Str → Option Value} {base : Heap} {x : Str} {params : Arguments} {body : List Stmt} {scope : Scope} {fd : FuncData}
theorem tkx_fn {N : List Str} {cdv : Value} {A : Around} {outer : List Env} {s : Shared} {H : Hp} {E : XK} : L2N.Takes (cxF P w K mg base N x scope cdv A outer s H E) (fun cls d _ H' => E cls d H') := L2N.takes_of rfl rfl rfl rfl
theorem fn_mkX {N ps : List Str} {k : Nat} {f : SX} (D : FunD K x x params body scope [] [] (He.ga K x) fd) (hx : mg x = some (.ref (He.ga K x))) (S : FnScope N ps scope)
    (hbd : ∀ (kV doc pm : Value) (an : Option Addr) (cdv ct : Value) (us : List Value), us.length = ps.length → bindArgs (PySem.W.fnOf x x params body scope .none kV doc pm an cdv ct) ⟨us, []⟩ = pure (ps.zip us))
    (hps : ps.length ≤ N.length)
    (hb : ∀ (cdv : Value) (A : Around) (outer : List Env) (s : Shared) (H V : Hp) (E : XK), Room k (A.deeper (envOfC x scope s.heap.objs.size (He.ga K x) cdv)) → PMXs (cxF P w K mg base N x scope cdv A outer s H E) (mkF H V E) E body f) :
    FnX P w K mg base (k + 1) x ps (fnRunX ps.length N.length f) := by
  refine ⟨fd, D.ok (CX := L2N.CX P w) S (fun vs H Q E h => h.1) fun cdv A outer s H vs Q E hr h => ?_, D.bindsN hbd, D.kp, hx, fun ds h => ?_⟩
  · obtain ⟨hl, V, ds, ht, sv, r, g⟩ := h
    refine ⟨_, hb cdv A outer s H V E hr, V, start0 N.length ds, repL_get r rfl (by omega) sv ht, ?_⟩
    unfold fnRunX at g
    rw [if_pos (by rw [← r.length]; exact hl)] at g
    show GoalX ⟨K, w⟩ (mkF H V E) E V (f (start0 N.length ds)) _
    cases e : f (start0 N.length ds) with
    | cl d => rw [e] at g; exact g
    | o o =>
      rw [e] at g
      cases o with
      | rt d ρ' => exact fun v σ' H' V' E' _ r' => g v H' V' E'.ext r'
      | rf d ρ' => exact fun v σ' H' V' E' _ r' _ => g v H' V' E'.ext r'
      | nx ρ' => exact fun σ' H' V' E' _ => g .non H' V' E'.ext .non
      | exc c => exact fun σ' H' V' x => g H' V' x
      | bk ρ' => exact False.elim g
      | ct ρ' => exact False.elim g
      | bad => exact False.elim g
  · unfold fnRunX at h
    by_cases hl : ds.length = ps.length
    · exact hl
    · rw [if_neg hl] at h; exact absurd rfl h
end
section
variable {X : Cx} {F : Fr}
theorem tkx_lam {A : Around} {outer : List Env} {s : Shared} {H : Hp} {E : XK} {scope : Scope} {f c' : Addr} : L2N.Takes (lamN X A outer s H E scope f c') (fun cls d _ H' => E cls d H') := L2N.takes_of rfl rfl rfl rfl
end
end HD
set_option Elab.async false
set_option linter.all false
set_option maxRecDepth 100000
set_option maxHeartbeats 2000000
namespace HD
open PySem PySem.Spec PyProof.Rows L2 L2H HotX LamX DL He
/-- the part of the heap, with the statics -/
def frX (g : Addr → Option Obj) (n : Nat) (ls : List Str) : PySem.W.Frag := frG g (cStatics :: (asD g n).filter fun a => !((codesL (frG g (asD g n)) ls).any fun q => q.2 == a))
def vecB (K : PySem.W.Frag) (S : Addr) : Bool := eqO (PySem.W.specialIn K (.ref S) "__getattribute__") (some (some (.builtin "type.__getattribute__"))) && (PySem.W.readsIn K S (.type "type") && (decide (PySem.W.typeIn K (.ref S) = some (.type "type")) &&
  (match PySem.W.findCls K (.ref S) (.type "type") "__init__" with
    | some (.val v) => decide (v = .builtin "ValueError.__init__")
    | _ => false)))
theorem vecB_ok {K : PySem.W.Frag} {S : Addr} (e : vecB K S = true) : VeC K S := by
  obtain ⟨e1, e⟩ := ba e
  obtain ⟨e2, e⟩ := ba e
  obtain ⟨e3, e4⟩ := ba e
  refine ⟨eqO_ok e1, e2, of_decide_eq_true e3, ?_⟩
  split at e4
  · rename_i v q
    rw [q, of_decide_eq_true e4]
  · cases e4
def ecB (K : PySem.W.Frag) (C : Addr) : Bool := eqO (PySem.W.findIn K (.ref C) "__getattribute__") (some (some (.builtin "BaseException.__getattribute__"))) && (eqO (PySem.W.findIn K (.ref C) "__getattr__") (some none) && (decide (PySem.W.subIn K (.ref C) (.type "BaseException") = some true) &&
    (PySem.W.hasDictIn K C && (eqO (PySem.W.findIn K (.ref C) "__class__") (some (some (.builtin "object.__class__"))) && (eqO (PySem.W.specialIn K (.builtin "object.__class__") "__get__") (some (some (.builtin "getset_descriptor.__get__"))) &&
      (decide (PySem.W.takesIn K (.builtin "object.__class__") = some true) && decide (PySem.W.mroIn K C (.type "object") = some true)))))))
theorem ecB_ok {K : PySem.W.Frag} {C : Addr} (e : ecB K C = true) : ExcC K C := by
  obtain ⟨e1, e⟩ := ba e
  obtain ⟨e2, e⟩ := ba e
  obtain ⟨e3, e⟩ := ba e
  obtain ⟨e4, e⟩ := ba e
  obtain ⟨e5, e⟩ := ba e
  obtain ⟨e6, e⟩ := ba e
  obtain ⟨e7, e8⟩ := ba e
  exact ⟨eqO_ok e1, eqO_ok e2, of_decide_eq_true e3, e4, eqO_ok e5, eqO_ok e6, of_decide_eq_true e7, of_decide_eq_true e8⟩
def clB (K : PySem.W.Frag) : Bool := oexB K (aCl K) && (eqO (PySem.W.findIn K (.ref (aCl K)) "__setattr__") (some (some (.builtin "object.__setattr__"))) && (decide (PySem.W.typeIn K (.ref (aCl K)) = some (.type "type")) && (PySem.W.keepIn K (.ref (aCl K)) &&
  (eqO (PySem.W.findIn K (.ref (aCl K)) "__init__") (some (some (.ref (aIn K)))) && (decide (PySem.W.typeIn K (.ref (aIn K)) = some (.type "function")) && (eqO (PySem.W.findIn K (.ref (aCl K)) "beats") (some none) && (vecB K (aSE K) && (ecB K (aCl K) &&
    ((excs1.all fun d => decide (PySem.W.kitOne K (.ref (aCl K)) (.ref (ga K d)) = some (decide ("Clash" = d)))) && (decide (PySem.W.kitOne K (.ref (aCl K)) (.type "ValueError") = some true) &&
      (decide (PySem.W.exmOne K (.ref (aCl K)) (.ref (aCl K)) = some true) && decide (PySem.W.exmOne K (.ref (aCl K)) (.ref (aSE K)) = some true))))))))))))
theorem clB_ok {K : PySem.W.Frag} (e : clB K = true) : ClK K := by
  obtain ⟨e1, e⟩ := ba e
  obtain ⟨e2, e⟩ := ba e
  obtain ⟨e3, e⟩ := ba e
  obtain ⟨e4, e⟩ := ba e
  obtain ⟨e5, e⟩ := ba e
  obtain ⟨e6, e⟩ := ba e
  obtain ⟨e7, e⟩ := ba e
  obtain ⟨e8, e⟩ := ba e
  obtain ⟨e9, e⟩ := ba e
  obtain ⟨e10, e⟩ := ba e
  obtain ⟨e11, e⟩ := ba e
  obtain ⟨e12, e13⟩ := ba e
  have E := ecB_ok e9
  exact ⟨⟨oexB_ok e1, eqO_ok e2, E.hs, of_decide_eq_true e3, e4⟩, eqO_ok e5, of_decide_eq_true e6, eqO_ok e7, vecB_ok e8, ⟨E.hg, E.hk, E.hs, E.hd⟩, E, fun d hd => of_decide_eq_true (List.all_eq_true.mp e10 d hd), of_decide_eq_true e11, of_decide_eq_true e12, of_decide_eq_true e13⟩
def obsX (fa : List Fa) (fn : List DefD) (ls : List Str) (g : Addr → Option Obj) (K : PySem.W.Frag) : AlD × Bool := (obsD fa fn K, lamB g K ls && (excB K && clB K))
def obsXG (n : Nat) (fa : List Fa) (fn : List DefD) (ls : List Str) (g : Addr → Option Obj) : AlD × Bool := obsX fa fn ls g (frX g n ls)
def hookX (n : Nat) (fa : List Fa) (fn : List DefD) (ls : List Str) : PySem.W.Hook where
  α := AlD × Bool
  obs := fun s => obsXG n fa fn ls s.heap.get?
  val := fun _ => (valD fn, true)
  says := fun _ h => ∃ K : PySem.W.Frag, K.In h ∧ SaysD fa fn K ∧ LamSays K h ls ∧ ExcT K ∧ ClK K
  of := fun _ s e => by
    have e1 : obsD fa fn (frX s.heap.get? n ls) = valD fn := congrArg Prod.fst e
    have e2 : (lamB s.heap.get? (frX s.heap.get? n ls) ls && (excB (frX s.heap.get? n ls) && clB (frX s.heap.get? n ls))) = true := congrArg Prod.snd e
    obtain ⟨e3, e4⟩ := ba e2
    obtain ⟨e5, e6⟩ := ba e4
    exact ⟨_, frG_in, e1, lamB_ok frG_in e3, excB_ok e5, clB_ok e6⟩
  keeps := fun _ _ _ ⟨K, hK, c, l, x, y⟩ k => ⟨K, PySem.W.Frag.In.keeps hK k, c, l.keeps k, x, y⟩
theorem obsXG_eq {n : Nat} {fa : List Fa} {fn : List DefD} {ls : List Str} {g : Addr → Option Obj} {s : Shared} (h : ∀ a, g a = s.heap.get? a) : obsXG n fa fn ls g = (hookX n fa fn ls).obs s := by
  have e : g = s.heap.get? := funext h
  rw [e] <;> rfl
end HD
set_option Elab.async false
set_option linter.all false
set_option maxRecDepth 100000
set_option maxHeartbeats 4000000
namespace G
open PySem PySem.Spec PyProof.Rows L2 DL
variable [TabCtx]
def top (i : Nat) : Stmt := PySem.Challenge.pw_hearsong_k26_refusals_apart.main.body.getD i (.Pass ⟨0, 0, 0, 0⟩)
abbrev s_is_whole : Stmt := top 15
abbrev s_is_word : Stmt := top 16
abbrev s_rise : Stmt := top 17
abbrev s_are_lines : Stmt := top 18
abbrev s_is_ear : Stmt := top 19
abbrev s_are_ears : Stmt := top 20
abbrev s_places_for : Stmt := top 21
abbrev s_is_singer : Stmt := top 22
abbrev s_is_choir : Stmt := top 23
abbrev s_need_choir : Stmt := top 24
abbrev s_all_names : Stmt := top 25
abbrev s_names : Stmt := top 26
abbrev s_is_good_standing : Stmt := top 27
abbrev s_need_standing : Stmt := top 28
abbrev s_need_name : Stmt := top 29
abbrev s_number_of : Stmt := top 30
abbrev s_heard_by : Stmt := top 31
abbrev s_place_of : Stmt := top 32
abbrev s_table_line : Stmt := top 33
abbrev s_all_next : Stmt := top 34
abbrev s_behind : Stmt := top 35
abbrev s_on : Stmt := top 36
abbrev s_need_stretch : Stmt := top 39
abbrev s_need_asked_2 : Stmt := top 40
abbrev s_place_at : Stmt := top 41
abbrev s_slip_of : Stmt := top 42
abbrev s_fits : Stmt := top 43
abbrev s_asked_of : Stmt := top 44
abbrev s_own_ears : Stmt := top 45
abbrev s_tables : Stmt := top 46
abbrev s_do_count : Stmt := top 48
abbrev s_ears_that_count : Stmt := top 49
abbrev s_counting : Stmt := top 50
abbrev s_lean_singer : Stmt := top 51
abbrev s_leaned : Stmt := top 52
abbrev s_need_first_rows : Stmt := top 55
abbrev s_spots_for : Stmt := top 56
abbrev s_lines_for : Stmt := top 57
abbrev s_widened : Stmt := top 58
abbrev s_all_known : Stmt := top 59
abbrev s_as_standing : Stmt := top 60
abbrev s_must_begin : Stmt := top 61
abbrev s_need_both : Stmt := top 65
abbrev s_need_beats : Stmt := top 66
abbrev s_rows_of : Stmt := top 67
abbrev s_song : Stmt := top 68
abbrev s_walked : Stmt := top 69
abbrev s_round_of : Stmt := top 70
abbrev s_is_lead : Stmt := top 72
abbrev s_need_leads : Stmt := top 73
abbrev s_led_lines : Stmt := top 74
abbrev s_led_rows : Stmt := top 75
abbrev s_led_song : Stmt := top 76
abbrev s_singer_text : Stmt := top 79
abbrev s_choir_text : Stmt := top 80
abbrev s_figures_in : Stmt := top 81
abbrev s_ear_in : Stmt := top 82
abbrev s_singer_in : Stmt := top 83
abbrev s_read_choir : Stmt := top 84
abbrev s_is_good_wish : Stmt := top 87
abbrev s_need_wish : Stmt := top 88
abbrev s_holds : Stmt := top 89
abbrev s_granted : Stmt := top 90
abbrev s_law_cell : Stmt := top 92
abbrev s_law_drawn : Stmt := top 93
abbrev s_law_roll : Stmt := top 94
abbrev s_law_rounds : Stmt := top 95
abbrev s_law_met : Stmt := top 96
abbrev s_law_alone : Stmt := top 97
abbrev s_law : Stmt := top 98
def clsM (s : Stmt) (j : Nat) : Stmt := match s with
  | .ClassDef _ _ _ b _ _ _ _ _ _ _ => b.getD j (.Pass ⟨0, 0, 0, 0⟩)
  | _ => .Pass ⟨0, 0, 0, 0⟩
abbrev s_Clash_init : Stmt := clsM (top 9) 0
abbrev lams : List Str := ["law"]
end G
set_option maxHeartbeats 0
namespace Head
open PySem PySem.Spec PyProof.Rows L2 DL G
def d_is_whole : He.DefD := ⟨("is_whole", none), "is_whole", "is_whole", defArgs s_is_whole, defBody s_is_whole, defScope s_is_whole, [], []⟩
def d_is_word : He.DefD := ⟨("is_word", none), "is_word", "is_word", defArgs s_is_word, defBody s_is_word, defScope s_is_word, [], []⟩
def d_rise : He.DefD := ⟨("rise", none), "rise", "rise", defArgs s_rise, defBody s_rise, defScope s_rise, [], []⟩
def d_are_lines : He.DefD := ⟨("are_lines", none), "are_lines", "are_lines", defArgs s_are_lines, defBody s_are_lines, defScope s_are_lines, [], []⟩
def d_is_ear : He.DefD := ⟨("is_ear", none), "is_ear", "is_ear", defArgs s_is_ear, defBody s_is_ear, defScope s_is_ear, [], []⟩
def d_are_ears : He.DefD := ⟨("are_ears", none), "are_ears", "are_ears", defArgs s_are_ears, defBody s_are_ears, defScope s_are_ears, [], []⟩
def d_places_for : He.DefD := ⟨("places_for", none), "places_for", "places_for", defArgs s_places_for, defBody s_places_for, defScope s_places_for, [], []⟩
def d_is_singer : He.DefD := ⟨("is_singer", none), "is_singer", "is_singer", defArgs s_is_singer, defBody s_is_singer, defScope s_is_singer, [], []⟩
def d_is_choir : He.DefD := ⟨("is_choir", none), "is_choir", "is_choir", defArgs s_is_choir, defBody s_is_choir, defScope s_is_choir, [], []⟩
def d_need_choir : He.DefD := ⟨("need_choir", none), "need_choir", "need_choir", defArgs s_need_choir, defBody s_need_choir, defScope s_need_choir, [], []⟩
def d_all_names : He.DefD := ⟨("all_names", none), "all_names", "all_names", defArgs s_all_names, defBody s_all_names, defScope s_all_names, [], []⟩
def d_names : He.DefD := ⟨("names", none), "names", "names", defArgs s_names, defBody s_names, defScope s_names, [], []⟩
def d_is_good_standing : He.DefD := ⟨("is_good_standing", none), "is_good_standing", "is_good_standing", defArgs s_is_good_standing, defBody s_is_good_standing, defScope s_is_good_standing, [], []⟩
def d_need_standing : He.DefD := ⟨("need_standing", none), "need_standing", "need_standing", defArgs s_need_standing, defBody s_need_standing, defScope s_need_standing, [], []⟩
def d_need_name : He.DefD := ⟨("need_name", none), "need_name", "need_name", defArgs s_need_name, defBody s_need_name, defScope s_need_name, [], []⟩
def d_number_of : He.DefD := ⟨("number_of", none), "number_of", "number_of", defArgs s_number_of, defBody s_number_of, defScope s_number_of, [], []⟩
def d_heard_by : He.DefD := ⟨("heard_by", none), "heard_by", "heard_by", defArgs s_heard_by, defBody s_heard_by, defScope s_heard_by, [], []⟩
def d_place_of : He.DefD := ⟨("place_of", none), "place_of", "place_of", defArgs s_place_of, defBody s_place_of, defScope s_place_of, [], []⟩
def d_table_line : He.DefD := ⟨("table_line", none), "table_line", "table_line", defArgs s_table_line, defBody s_table_line, defScope s_table_line, [], []⟩
def d_all_next : He.DefD := ⟨("all_next", none), "all_next", "all_next", defArgs s_all_next, defBody s_all_next, defScope s_all_next, [], []⟩
def d_behind : He.DefD := ⟨("behind", none), "behind", "behind", defArgs s_behind, defBody s_behind, defScope s_behind, [], []⟩
def d_on : He.DefD := ⟨("on", none), "on", "on", defArgs s_on, defBody s_on, defScope s_on, [], []⟩
def d_need_stretch : He.DefD := ⟨("need_stretch", none), "need_stretch", "need_stretch", defArgs s_need_stretch, defBody s_need_stretch, defScope s_need_stretch, [], []⟩
def d_need_asked_2 : He.DefD := ⟨("need_asked", none), "need_asked", "need_asked", defArgs s_need_asked_2, defBody s_need_asked_2, defScope s_need_asked_2, [], []⟩
def d_place_at : He.DefD := ⟨("place_at", none), "place_at", "place_at", defArgs s_place_at, defBody s_place_at, defScope s_place_at, [], []⟩
def d_slip_of : He.DefD := ⟨("slip_of", none), "slip_of", "slip_of", defArgs s_slip_of, defBody s_slip_of, defScope s_slip_of, [], []⟩
def d_fits : He.DefD := ⟨("fits", none), "fits", "fits", defArgs s_fits, defBody s_fits, defScope s_fits, [], []⟩
def d_asked_of : He.DefD := ⟨("asked_of", none), "asked_of", "asked_of", defArgs s_asked_of, defBody s_asked_of, defScope s_asked_of, [], []⟩
def d_own_ears : He.DefD := ⟨("own_ears", none), "own_ears", "own_ears", defArgs s_own_ears, defBody s_own_ears, defScope s_own_ears, [], []⟩
def d_tables : He.DefD := ⟨("tables", none), "tables", "tables", defArgs s_tables, defBody s_tables, defScope s_tables, [], []⟩
def d_do_count : He.DefD := ⟨("do_count", none), "do_count", "do_count", defArgs s_do_count, defBody s_do_count, defScope s_do_count, [], []⟩
def d_ears_that_count : He.DefD := ⟨("ears_that_count", none), "ears_that_count", "ears_that_count", defArgs s_ears_that_count, defBody s_ears_that_count, defScope s_ears_that_count, [], []⟩
def d_counting : He.DefD := ⟨("counting", none), "counting", "counting", defArgs s_counting, defBody s_counting, defScope s_counting, [], []⟩
def d_lean_singer : He.DefD := ⟨("lean_singer", none), "lean_singer", "lean_singer", defArgs s_lean_singer, defBody s_lean_singer, defScope s_lean_singer, [], []⟩
def d_leaned : He.DefD := ⟨("leaned", none), "leaned", "leaned", defArgs s_leaned, defBody s_leaned, defScope s_leaned, [], []⟩
def d_need_first_rows : He.DefD := ⟨("need_first_rows", none), "need_first_rows", "need_first_rows", defArgs s_need_first_rows, defBody s_need_first_rows, defScope s_need_first_rows, [], []⟩
def d_spots_for : He.DefD := ⟨("spots_for", none), "spots_for", "spots_for", defArgs s_spots_for, defBody s_spots_for, defScope s_spots_for, [], []⟩
def d_lines_for : He.DefD := ⟨("lines_for", none), "lines_for", "lines_for", defArgs s_lines_for, defBody s_lines_for, defScope s_lines_for, [], []⟩
def d_widened : He.DefD := ⟨("widened", none), "widened", "widened", defArgs s_widened, defBody s_widened, defScope s_widened, [], []⟩
def d_all_known : He.DefD := ⟨("all_known", none), "all_known", "all_known", defArgs s_all_known, defBody s_all_known, defScope s_all_known, [], []⟩
def d_as_standing : He.DefD := ⟨("as_standing", none), "as_standing", "as_standing", defArgs s_as_standing, defBody s_as_standing, defScope s_as_standing, [], []⟩
def d_must_begin : He.DefD := ⟨("must_begin", none), "must_begin", "must_begin", defArgs s_must_begin, defBody s_must_begin, defScope s_must_begin, [], []⟩
def d_need_both : He.DefD := ⟨("need_both", none), "need_both", "need_both", defArgs s_need_both, defBody s_need_both, defScope s_need_both, [], []⟩
def d_need_beats : He.DefD := ⟨("need_beats", none), "need_beats", "need_beats", defArgs s_need_beats, defBody s_need_beats, defScope s_need_beats, [], []⟩
def d_rows_of : He.DefD := ⟨("rows_of", none), "rows_of", "rows_of", defArgs s_rows_of, defBody s_rows_of, defScope s_rows_of, [], []⟩
def d_song : He.DefD := ⟨("song", none), "song", "song", defArgs s_song, defBody s_song, defScope s_song, [], []⟩
def d_walked : He.DefD := ⟨("walked", none), "walked", "walked", defArgs s_walked, defBody s_walked, defScope s_walked, [], []⟩
def d_round_of : He.DefD := ⟨("round_of", none), "round_of", "round_of", defArgs s_round_of, defBody s_round_of, defScope s_round_of, [], []⟩
def d_is_lead : He.DefD := ⟨("is_lead", none), "is_lead", "is_lead", defArgs s_is_lead, defBody s_is_lead, defScope s_is_lead, [], []⟩
def d_need_leads : He.DefD := ⟨("need_leads", none), "need_leads", "need_leads", defArgs s_need_leads, defBody s_need_leads, defScope s_need_leads, [], []⟩
def d_led_lines : He.DefD := ⟨("led_lines", none), "led_lines", "led_lines", defArgs s_led_lines, defBody s_led_lines, defScope s_led_lines, [], []⟩
def d_led_rows : He.DefD := ⟨("led_rows", none), "led_rows", "led_rows", defArgs s_led_rows, defBody s_led_rows, defScope s_led_rows, [], []⟩
def d_led_song : He.DefD := ⟨("led_song", none), "led_song", "led_song", defArgs s_led_song, defBody s_led_song, defScope s_led_song, [], []⟩
def d_singer_text : He.DefD := ⟨("singer_text", none), "singer_text", "singer_text", defArgs s_singer_text, defBody s_singer_text, defScope s_singer_text, [], []⟩
def d_choir_text : He.DefD := ⟨("choir_text", none), "choir_text", "choir_text", defArgs s_choir_text, defBody s_choir_text, defScope s_choir_text, [], []⟩
def d_figures_in : He.DefD := ⟨("figures_in", none), "figures_in", "figures_in", defArgs s_figures_in, defBody s_figures_in, defScope s_figures_in, [], []⟩
def d_ear_in : He.DefD := ⟨("ear_in", none), "ear_in", "ear_in", defArgs s_ear_in, defBody s_ear_in, defScope s_ear_in, [], []⟩
def d_singer_in : He.DefD := ⟨("singer_in", none), "singer_in", "singer_in", defArgs s_singer_in, defBody s_singer_in, defScope s_singer_in, [], []⟩
def d_read_choir : He.DefD := ⟨("read_choir", none), "read_choir", "read_choir", defArgs s_read_choir, defBody s_read_choir, defScope s_read_choir, [], []⟩
def d_is_good_wish : He.DefD := ⟨("is_good_wish", none), "is_good_wish", "is_good_wish", defArgs s_is_good_wish, defBody s_is_good_wish, defScope s_is_good_wish, [], []⟩
def d_need_wish : He.DefD := ⟨("need_wish", none), "need_wish", "need_wish", defArgs s_need_wish, defBody s_need_wish, defScope s_need_wish, [], []⟩
def d_holds : He.DefD := ⟨("holds", none), "holds", "holds", defArgs s_holds, defBody s_holds, defScope s_holds, [], []⟩
def d_granted : He.DefD := ⟨("granted", none), "granted", "granted", defArgs s_granted, defBody s_granted, defScope s_granted, [], []⟩
def d_law_cell : He.DefD := ⟨("_law_cell", none), "_law_cell", "_law_cell", defArgs s_law_cell, defBody s_law_cell, defScope s_law_cell, [], []⟩
def d_law_drawn : He.DefD := ⟨("_law_drawn", none), "_law_drawn", "_law_drawn", defArgs s_law_drawn, defBody s_law_drawn, defScope s_law_drawn, [], []⟩
def d_law_roll : He.DefD := ⟨("_law_roll", none), "_law_roll", "_law_roll", defArgs s_law_roll, defBody s_law_roll, defScope s_law_roll, [], []⟩
def d_law_rounds : He.DefD := ⟨("_law_rounds", none), "_law_rounds", "_law_rounds", defArgs s_law_rounds, defBody s_law_rounds, defScope s_law_rounds, [], []⟩
def d_law_met : He.DefD := ⟨("_law_met", none), "_law_met", "_law_met", defArgs s_law_met, defBody s_law_met, defScope s_law_met, [], []⟩
def d_law_alone : He.DefD := ⟨("_law_alone", none), "_law_alone", "_law_alone", defArgs s_law_alone, defBody s_law_alone, defScope s_law_alone, [], []⟩
def d_law : He.DefD := ⟨("law", none), "law", "law", defArgs s_law, defBody s_law, defScope s_law, [], []⟩
def d_Clash_init : He.DefD := ⟨("Clash", some "__init__"), "__init__", "Clash.__init__", defArgs s_Clash_init, defBody s_Clash_init, defScope s_Clash_init, [], []⟩
def fn : List He.DefD := [d_is_whole, d_is_word, d_rise, d_are_lines, d_is_ear, d_are_ears, d_places_for, d_is_singer, d_is_choir, d_need_choir, d_all_names, d_names, d_is_good_standing, d_need_standing, d_need_name, d_number_of, d_heard_by, d_place_of, d_table_line, d_all_next, d_behind, d_on, d_need_stretch, d_need_asked_2, d_place_at, d_slip_of, d_fits, d_asked_of, d_own_ears, d_tables, d_do_count, d_ears_that_count, d_counting, d_lean_singer, d_leaned, d_need_first_rows, d_spots_for, d_lines_for, d_widened, d_all_known, d_as_standing, d_must_begin, d_need_both, d_need_beats, d_rows_of, d_song, d_walked, d_round_of, d_is_lead, d_need_leads, d_led_lines, d_led_rows, d_led_song, d_singer_text, d_choir_text, d_figures_in, d_ear_in, d_singer_in, d_read_choir, d_is_good_wish, d_need_wish, d_holds, d_granted, d_law_cell, d_law_drawn, d_law_roll, d_law_rounds, d_law_met, d_law_alone, d_law, d_Clash_init]
def fa : List He.Fa := [.glo "is_whole", .glo "is_word", .glo "rise", .glo "are_lines", .glo "is_ear", .glo "are_ears", .glo "places_for", .glo "is_singer", .glo "is_choir", .glo "need_choir", .glo "all_names", .glo "names", .glo "is_good_standing", .glo "need_standing", .glo "need_name", .glo "number_of", .glo "heard_by", .glo "place_of", .glo "table_line", .glo "all_next", .glo "behind", .glo "on", .glo "need_stretch", .glo "need_asked", .glo "place_at", .glo "slip_of", .glo "fits", .glo "asked_of", .glo "own_ears", .glo "tables", .glo "do_count", .glo "ears_that_count", .glo "counting", .glo "lean_singer", .glo "leaned", .glo "need_first_rows", .glo "spots_for", .glo "lines_for", .glo "widened", .glo "all_known", .glo "as_standing", .glo "must_begin", .glo "need_both", .glo "need_beats", .glo "rows_of", .glo "song", .glo "walked", .glo "round_of", .glo "is_lead", .glo "need_leads", .glo "led_lines", .glo "led_rows", .glo "led_song", .glo "singer_text", .glo "choir_text", .glo "figures_in", .glo "ear_in", .glo "singer_in", .glo "read_choir", .glo "is_good_wish", .glo "need_wish", .glo "holds", .glo "granted", .glo "_law_cell", .glo "_law_drawn", .glo "_law_roll", .glo "_law_rounds", .glo "_law_met", .glo "_law_alone", .glo "law", .glo "SongError", .glo "BadChoir", .glo "BadName", .glo "BadStanding", .glo "BadNumber", .glo "BadRows", .glo "BadLead", .glo "BadWish", .glo "Clash", .glo "Nothing", .glo "Full", .glo "BadText", .exc "SongError", .exc "BadChoir", .exc "BadName", .exc "BadStanding", .exc "BadNumber", .exc "BadRows", .exc "BadLead", .exc "BadWish", .exc "Nothing", .exc "Full", .exc "BadText", .str "SMALL" "abcdefghijklmnopqrstuvwxyz", .int "FREE" 3, .int "MOST_BEGINNINGS" 500, .int "LONGEST" 500, .int "MOST_AHEAD" 20000, .str "FIGURES" "0123", .int "DEEPEST" 4, .free "ValueError", .free "all", .free "bool", .free "dict", .free "enumerate", .free "int", .free "isinstance", .free "len", .free "list", .free "max", .free "min", .free "range", .free "set", .free "sorted", .free "str", .free "tuple", .free "zip"]
abbrev R : PySem.W.OpenRow := PySem.W.OpenLaw.row PySem.Challenge.rw_hearsong_k26_refusals_apart
abbrev hk : PySem.W.Hook := HD.hookX 4 fa fn lams
def ob (s : PySem.W.SharedT) : He.AlD × Bool := HD.obsXG 4 fa fn lams (HandSHeadRun.getT s)
theorem ob_eq (s : PySem.W.SharedT) : ob s = hk.obs s.abs := HD.obsXG_eq (HandSHeadRun.getT_eq s)
def lo0 : List PySem.Str := ["is_whole", "is_word", "rise", "are_lines", "is_ear", "are_ears", "places_for", "is_singer", "is_choir", "need_choir", "all_names", "names", "is_good_standing", "need_standing", "need_name", "number_of", "heard_by", "place_of", "table_line", "all_next", "behind", "on", "need_stretch", "need_asked", "place_at", "slip_of", "fits", "asked_of", "own_ears", "tables"]
def lo1 : List PySem.Str := ["do_count", "ears_that_count", "counting", "lean_singer", "leaned", "need_first_rows", "spots_for", "lines_for", "widened", "all_known", "as_standing", "must_begin", "need_both", "need_beats", "rows_of", "song", "walked", "round_of", "is_lead", "need_leads", "led_lines", "led_rows", "led_song", "singer_text", "choir_text", "figures_in", "ear_in", "singer_in", "read_choir", "is_good_wish"]
def lo2 : List PySem.Str := ["need_wish", "holds", "granted", "_law_cell", "_law_drawn", "_law_roll", "_law_rounds", "_law_met", "_law_alone", "SongError", "BadChoir", "BadName", "BadStanding", "BadNumber", "BadRows", "BadLead", "BadWish", "Clash", "Nothing", "Full", "BadText", "SMALL", "FREE", "MOST_BEGINNINGS", "LONGEST", "MOST_AHEAD", "FIGURES", "DEEPEST"]
def loose : List PySem.Str := lo0 ++ lo1 ++ lo2
theorem run (w : World) : HandSHeadRun.RunEq R (PySem.W.view R.prog [98]) hk ob 9000 loose w := by
  intro os
  kernel_rfl
end Head
set_option Elab.async false
set_option linter.all false
set_option maxRecDepth 100000
set_option maxHeartbeats 2000000
namespace HD
open PySem PySem.Spec PyProof.Rows L2 L2H HotX LamX DL
/-- the def x of K makes lambdas -/
def LamK [TabCtx] (K : PySem.W.Frag) (mg : Str → Option Value) (base : Heap) (x : Str) : Prop := ∀ (fd : FuncData) (oc : Value) (od : Option Addr) (osl : Array (Option Value)), K.lookup (He.ga K x) = some ⟨oc, od, .func fd, osl⟩ → ∃ c P, LamAt K mg base x fd.code c P
def LamKs [TabCtx] (K : PySem.W.Frag) (mg : Str → Option Value) (base : Heap) (ls : List Str) : Prop := ∀ x ∈ ls, LamK K mg base x
theorem lamKs {K : PySem.W.Frag} {h : Heap} {ls : List Str} {mg : Str → Option Value} {base : Heap} (L : LamSays K h ls) (TB : ∀ p ∈ codesL K ls, TabB base mg p.1 p.2) : letI := ctxL K ls; LamKs K mg base ls := by
  letI := ctxL K ls
  intro x hx fd oc od osl lk
  exact lamAt_of L TB hx lk
theorem cx_no {P : Program} {w : World} {H : Hp} {s : Shared} {e : Value} {s' : Shared} (h : L2N.CX P w [] H s (fun _ _ _ => False) e s') : False := by
  letI : TabCtx := ⟨[]⟩
  exact DL.cxe_no (P := P) ⟨w, h⟩
variable [TabCtx]
section
variable {P : Program} {w : World} {K : PySem.W.Frag} {mg : Str → Option Value} {base : Heap} {x : Str} {params : Arguments} {body : List Stmt} {scope : Scope} {fd : FuncData}
theorem pmss_bad {X : Cx} {F : Fr} {sts : List Stmt} : PMSs X F sts badO := ⟨fun pins s σ H D I ⟨V, ρ, E, g⟩ => g.elim⟩
end
end HD
set_option Elab.async false
set_option linter.all false
set_option maxRecDepth 100000
set_option maxHeartbeats 2000000
namespace HD
open PySem PySem.Spec PyProof.Rows L2 L2H HotX LamX DL
variable [TabCtx]
def Kept (P : Program) (w : World) (f : Addr) (h : Heap) : Prop := ∃ k, (k = Keeper.frame ∨ k = Keeper.machine ∨ k = Keeper.boundFrame) ∧ PySem.W.Looks (model P w) h (keeperOf (.ref f)) k
/-- what stands at f can be called: data in, data out -/
structure CbAt (P : Program) (w : World) (K : PySem.W.Frag) (mg : Str → Option Value) (base : Heap) (lvl : Nat) (H V : Hp) (f : Addr) (cb : List PyData → Option PyData) : Prop where
  run : ∀ (H' V' : Hp), Ext H V H' V' → TabV H' V' → ∀ (A : Around) (outer : List Env) (s : Shared) (us : List Value) (vs : List L2.V) (ds : List PyData) (d : PyData) (Q : VK), Room lvl A → Env0 P w K mg base A outer s H' → Vals vs us → RepL ⟨K, w⟩ V' vs ds → cb ds = some d →
    (∀ v H2 V2, Ext H' V' H2 V2 → Rep ⟨K, w⟩ V2 v d → Q v H2) → codeAny (model P w) A (.call (.ref f) ⟨us, []⟩) (CR C8.CX0 outer P w H' s Q C8.E0) s
  fn : ∀ (H' V' : Hp), Ext H V H' V' → ∀ h : Heap, HOk P w H' h → K.In h → Kept P w f h
theorem CbAt.mono {P : Program} {w : World} {K : PySem.W.Frag} {mg : Str → Option Value} {base : Heap} {lvl : Nat} {H V H1 V1 : Hp} {f : Addr} {cb : List PyData → Option PyData} (C : CbAt P w K mg base lvl H V f cb) (e : Ext H V H1 V1) : CbAt P w K mg base lvl H1 V1 f cb :=
  ⟨fun H' V' x => C.run H' V' (e.trans x), fun H' V' x => C.fn H' V' (e.trans x)⟩
end HD
set_option Elab.async false
set_option linter.all false
set_option maxRecDepth 100000
set_option maxHeartbeats 2000000
namespace HD
open PySem PySem.Spec PyProof.Rows L2 L2H HotX LamX DL
structure LamP (sc scope : Scope) (ps : List Str) : Prop where
  kind : scope.kind = .function
  co : scope.isCoroutine = false
  gen : scope.isGenerator = false
  own : ∀ y ∈ scope.names, y.2 ≠ .cell
  loc : ∀ y ∈ scope.names, y.2 = .local → y.1 ∈ ps
  free : ∀ y ∈ scope.names, y.2 = .free → sc.names.lookup y.1 = some .cell ∨ sc.names.lookup y.1 = some .free
  par : ∀ y ∈ ps, scope.names.lookup y = some .local
  nd : ps.Nodup
theorem LamP.has {X : Cx} {scope : Scope} {ps : List Str} (L : LamP X.env.scope scope ps) (ok : X.Ok) : ∀ y ∈ scope.names, y.2 = .free → ∃ c, X.env.cells.lookup y.1 = some c := fun y hy e => by
  rcases L.free y hy e with k | k
  · exact ok.has _ (.inl k)
  · exact ok.has _ (.inr k)
section
variable {X : Cx} {pins : List (Addr × Obj)} {σ : L2.St} {H HZ : Hp} {s s1 : Shared}
/-- a new thing comes to be tracked -/
theorem inv_track {a : Addr} {o : HO} (I : Inv X pins σ H s) (hn : H a = none) (h0 : X.s_0.heap.objs.size ≤ a) (hl : a ≠ X.env.locals) (hc : ∀ x c, X.env.cells.lookup x = some c → c ≠ a) (hp : ∀ p ∈ X.pn ++ pins, p.1 ≠ a) (ho : ObjOk X.prog X.w (upd H a o) s.heap a o) : Inv X pins σ (upd H a o) s := by
  have ne : ∀ b u, H b = some u → b ≠ a := fun b u e => ne_of_none e hn
  refine ⟨I.ok, I.os, I.bare, ⟨I.base.keep, I.base.slot, fun b ob q n hx => ?_, I.base.there, fun b xs q => ?_, fun b ob u q => ?_, fun b ps q => ?_⟩, I.loc, I.cell, ?_, fun y c e => ?_, fun p hq => ?_, fun b u e => ?_, I.len⟩
  · rw [upd_ne (Nat.ne_of_lt (Nat.lt_of_lt_of_le (Heap.lt_size q) h0))]; exact I.base.free b ob q n hx
  · have := I.base.tups b xs q
    rw [upd_ne (ne _ _ this)]; exact this
  · have := I.base.frzs b ob u q
    rw [upd_ne (ne _ _ this)]; exact this
  · obtain ⟨m, this⟩ := I.base.tbls b ps q
    exact ⟨m, by rw [upd_ne (ne _ _ this)]; exact this⟩
  · rw [upd_ne (Ne.symm hl)]; exact I.free
  · rw [upd_ne (hc y c e)]; exact I.freeC y c e
  · obtain ⟨q1, q2, q3⟩ := I.pin p hq
    exact ⟨q1, by rw [upd_ne (hp p hq)]; exact q2, q3⟩
  · by_cases hb : b = a
    · subst hb; rw [upd_same] at e; cases e; exact ho
    · rw [upd_ne hb] at e
      exact (I.hok b u e).stay (fun c v _ q => q) (fun c q => by rw [upd_ne (ne _ _ q)]; exact q) fun c xs q => by rw [upd_ne (ne _ _ q)]; exact q
end
end HD
set_option Elab.async false
set_option linter.all false
set_option maxRecDepth 100000
set_option maxHeartbeats 2000000
set_option Elab.async false
set_option linter.all false
set_option maxRecDepth 100000
set_option maxHeartbeats 2000000
namespace DL
open PySem PySem.Spec PyProof.Rows L2
end DL
set_option Elab.async false
set_option linter.all false
set_option maxRecDepth 100000
set_option maxHeartbeats 4000000
namespace PySem
open Sem (wp)
namespace F
theorem zip_no_len : typeLookup (.type "zip") "__len__" = pure none := by rw [typeLookup_type, builtinLookup_eq_fast]; kernel_rfl
theorem zip_no_hint : typeLookup (.type "zip") "__length_hint__" = pure none := by rw [typeLookup_type, builtinLookup_eq_fast]; kernel_rfl
end F
section
variable {prog : Program} {w : World} {A : Around} {E : Value → Shared → Prop} {s : Shared} {z TI TO i1 i2 : Addr} {fp1 fp2 : List Addr} {n1 n2 i : Nat} {P1 P2 : Nat → Value → Prop} {St1 St2 : Nat → Heap → Prop} {a1 a2 : Value}
theorem zipD2_item_held {T : Addr} {f : Bool} {oT : Obj} {Q : Value → Shared → Prop} (S : ZipSep2 z TI TO i1 i2 fp1 fp2) (D1 : Draws prog w A i1 fp1 n1 P1 St1) (D2 : Draws prog w A i2 fp2 n2 P2 St2)
    (hz : IsZipHeld s.heap z TI TO T f) (hT : s.heap.get? T = some oT) (hTI : IsTupOf2 s.heap TI (.ref i1) (.ref i2)) (st1 : St1 i s.heap) (st2 : St2 i s.heap) (hlt1 : i < n1) (hlt2 : i < n2)
    (hQ : ∀ x1 x2 h' tk, P1 i x1 → P2 i x2 → IsZipHeld h' z TI TO T true → St1 (i + 1) h' → St2 (i + 1) h' → IsTupOf2 h' s.heap.objs.size x1 x2 → h'.objs.size = s.heap.objs.size + 1 →
      (∀ c o, c ≠ z → c ≠ i1 → c ≠ i2 → s.heap.get? c = some o → h'.get? c = some o) → Q (.ref s.heap.objs.size) { s with heap := h', toks := tk }) :
    wpAny (model prog w) A (Builtin.«zip.__next__» ⟨[.ref z], []⟩) (fun fin s' => ∃ v, fin = .done (.ret v) ∧ Q v s') E s := by
  obtain ⟨hp, g, d, tk0, os⟩ := s
  show wpAny _ _ (field (.ref z) 2 >>= _) _ _ _
  refine wpAny_bind (wpAny_field hz rfl (x := .bool false) rfl ?_)
  show wpAny _ _ (field (.ref z) 3 >>= _) _ _ _
  refine wpAny_bind (wpAny_field hz rfl (x := .ref TI) rfl ?_)
  refine wpAny_bind (wpAny_seqItems hTI rfl ?_)
  show wpAny _ _ (Builtin.SmallTypes.ownedTupleIsFree (.ref z) >>= _) _ _ _
  refine wpAny_bind (wpAny_tupleHeld_zip hz hT fun h₁ hz₁ hs₁ => ?_)
  replace hs₁ : Heap.SameBut z hp h₁ := hs₁
  simp only [Bool.false_eq_true, if_false]
  refine wpAny_bind ?_
  rw [← Array.forIn_toList]
  simp only [List.forIn_cons, List.forIn_nil]
  refine wpAny_bind (wpAny_bind (wpAny_holding ?_))
  show wpAny _ _ (Builtin.SmallTypes.nextOf (.ref i1) >>= _) _ _ _
  refine wpAny_bind (D1.item i ⟨h₁, g, d, tk0, os⟩ _ _ hlt1 (D1.over st1 hs₁ S.zf1) fun x1 h₂ tk1 hx1 sn1 hs₂ => wpAny_pure ?_)
  replace hs₂ : Heap.SameBut i1 h₁ h₂ := hs₂
  refine wpAny_pure ?_
  refine wpAny_bind (wpAny_bind (wpAny_holding ?_))
  show wpAny _ _ (Builtin.SmallTypes.nextOf (.ref i2) >>= _) _ _ _
  refine wpAny_bind (D2.item i ⟨h₂, g, d, tk1, os⟩ _ _ hlt2 (D2.over (D2.over st2 hs₁ S.zf2) hs₂ S.sep1_2) fun x2 h₃ tk2 hx2 sn2 hs₃ => wpAny_pure ?_)
  replace hs₃ : Heap.SameBut i2 h₂ h₃ := hs₃
  refine wpAny_pure (wpAny_pure ?_)
  show wpAny _ _ (newTuple [x1, x2] >>= _) _ _ _
  refine wpAny_bind (wpAny_newTuple ?_)
  have hsz : h₃.objs.size = hp.objs.size := by rw [hs₃.1, hs₂.1, hs₁.1]
  have hz₃ : IsZipHeld h₃ z TI TO T true := hs₃.extBut _ _ S.zi2 (hs₂.extBut _ _ S.zi1 hz₁)
  have hk : ∀ c o, c ≠ z → c ≠ i1 → c ≠ i2 → hp.get? c = some o → h₃.get? c = some o := fun c o c1 c2 c3 e => hs₃.extBut _ _ c3 (hs₂.extBut _ _ c2 (hs₁.extBut _ _ c1 e))
  refine wpAny_pure ⟨_, rfl, ?_⟩
  show Q (.ref h₃.objs.size) _
  have hp' : IsTupOf2 (h₃.push { cls := .type "tuple", data := .seq #[x1, x2] }) h₃.objs.size x1 x2 := Heap.get?_push_size _ rfl
  have hz4 : (h₃.push { cls := .type "tuple", data := .seq #[x1, x2] }).objs.size = h₃.objs.size + 1 := Heap.size_push ..
  rw [hsz] at hp' hz4 ⊢
  exact hQ x1 x2 _ tk2 hx1 hx2 (Heap.get?_push_of_some _ hz₃) (D1.frame _ _ _ (D1.over sn1 hs₃ S.sep2_1) fun b _ o e => Heap.get?_push_of_some _ e) (D2.frame _ _ _ sn2 fun b _ o e => Heap.get?_push_of_some _ e) hp' hz4 fun c o c1 c2 c3 e => Heap.get?_push_of_some _ (hk c o c1 c2 c3 e)
theorem zipD2_end_held {T : Addr} {f : Bool} {oT : Obj} {Q : Fin → Shared → Prop} (S : ZipSep2 z TI TO i1 i2 fp1 fp2) (D1 : Draws prog w A i1 fp1 n1 P1 St1) (D2 : Draws prog w A i2 fp2 n2 P2 St2)
    (hz : IsZipHeld s.heap z TI TO T f) (hT : s.heap.get? T = some oT) (hTI : IsTupOf2 s.heap TI (.ref i1) (.ref i2)) (st1 : St1 i s.heap) (st2 : St2 i s.heap) (hle1 : i ≤ n1) (hle2 : i ≤ n2) (hend : i = n1 ∨ i = n2)
    (hE : ∀ h' tk e, (∀ c o, c ≠ z → c ≠ i1 → c ≠ i2 → s.heap.get? c = some o → h'.get? c = some o) → (∃ o, h'.get? e = some o ∧ o.cls = .type "StopIteration") → E (.ref e) { s with heap := h', toks := tk }) :
    wpAny (model prog w) A (Builtin.«zip.__next__» ⟨[.ref z], []⟩) Q E s := by
  obtain ⟨hp, g, d, tk0, os⟩ := s
  show wpAny _ _ (field (.ref z) 2 >>= _) _ _ _
  refine wpAny_bind (wpAny_field hz rfl (x := .bool false) rfl ?_)
  show wpAny _ _ (field (.ref z) 3 >>= _) _ _ _
  refine wpAny_bind (wpAny_field hz rfl (x := .ref TI) rfl ?_)
  refine wpAny_bind (wpAny_seqItems hTI rfl ?_)
  show wpAny _ _ (Builtin.SmallTypes.ownedTupleIsFree (.ref z) >>= _) _ _ _
  refine wpAny_bind (wpAny_tupleHeld_zip hz hT fun h₁ hz₁ hs₁ => ?_)
  replace hs₁ : Heap.SameBut z hp h₁ := hs₁
  simp only [Bool.false_eq_true, if_false]
  refine wpAny_bind ?_
  rw [← Array.forIn_toList]
  simp only [List.forIn_cons, List.forIn_nil]
  refine wpAny_bind (wpAny_bind (wpAny_holding ?_))
  show wpAny _ _ (Builtin.SmallTypes.nextOf (.ref i1) >>= _) _ _ _
  by_cases hlt1 : i < n1
  · have hi2 : i = n2 := by omega
    refine wpAny_bind (D1.item i ⟨h₁, g, d, tk0, os⟩ _ _ hlt1 (D1.over st1 hs₁ S.zf1) fun x1 h₂ tk1 hx1 sn1 hs₂ => wpAny_pure ?_)
    replace hs₂ : Heap.SameBut i1 h₁ h₂ := hs₂
    refine wpAny_pure ?_
    refine wpAny_bind (wpAny_bind (wpAny_holding ?_))
    show wpAny _ _ (Builtin.SmallTypes.nextOf (.ref i2) >>= _) _ _ _
    refine wpAny_bind (D2.done ⟨h₂, g, d, tk1, os⟩ _ _ (by rw [← hi2]; exact D2.over (D2.over st2 hs₁ S.zf2) hs₂ S.sep1_2) fun h₃ e hs₃ he => ?_)
    exact hE h₃ tk1 e (fun c o c1 c2 c3 x => hs₃ _ _ c3 (hs₂.extBut _ _ c2 (hs₁.extBut _ _ c1 x))) he
  · have hi1 : i = n1 := by omega
    refine wpAny_bind (D1.done ⟨h₁, g, d, tk0, os⟩ _ _ (by rw [← hi1]; exact D1.over st1 hs₁ S.zf1) fun h₂ e hs₂ he => ?_)
    exact hE h₂ tk0 e (fun c o c1 c2 _ x => hs₂ _ _ c2 (hs₁.extBut _ _ c1 x)) he
/-- a zip while a list at S takes its tuples -/
def ZS (z TI TO i1 i2 S : Addr) (St1 St2 : Nat → Heap → Prop) (i : Nat) (h : Heap) : Prop := IsTupOf2 h TI (.ref i1) (.ref i2) ∧ St1 i h ∧ St2 i h ∧
  ((IsZip h z TI TO .none ∧ ∃ a b, IsTupOf2 h TO a b) ∨ ∃ T f oT, IsZipHeld h z TI TO T f ∧ h.get? T = some oT ∧ T ≠ z ∧ T ≠ i1 ∧ T ≠ i2 ∧ T ≠ S)
structure ZOff (z TI TO i1 i2 : Addr) (fp1 fp2 : List Addr) (S : Addr) : Prop where
  z : S ≠ z
  TI : S ≠ TI
  TO : S ≠ TO
  f1 : S ∉ fp1
  f2 : S ∉ fp2
theorem zs_typeIs {S : Addr} (Z : ZS z TI TO i1 i2 S St1 St2 i s.heap) : s.TypeIs (.ref z) "zip" := by
  obtain ⟨_, _, _, ⟨hz, _⟩ | ⟨T, f, oT, hz, _⟩⟩ := Z
  · exact ⟨_, hz, rfl⟩
  · exact ⟨_, hz, rfl⟩
theorem zs_frame {S : Addr} (O : ZOff z TI TO i1 i2 fp1 fp2 S) (D1 : Draws prog w A i1 fp1 n1 P1 St1) (D2 : Draws prog w A i2 fp2 n2 P2 St2) {h h' : Heap} (Z : ZS z TI TO i1 i2 S St1 St2 i h) (k : ∀ b o, b ≠ S → h.get? b = some o → h'.get? b = some o) : ZS z TI TO i1 i2 S St1 St2 i h' := by
  obtain ⟨hTI, st1, st2, hz⟩ := Z
  refine ⟨k _ _ (Ne.symm O.TI) hTI, D1.frame _ _ _ st1 fun b hb o e => k b o (fun q => O.f1 (q ▸ hb)) e, D2.frame _ _ _ st2 fun b hb o e => k b o (fun q => O.f2 (q ▸ hb)) e, ?_⟩
  rcases hz with ⟨hz, a, b, hTO⟩ | ⟨T, f, oT, hz, hT, r1, r2, r3, r4⟩
  · exact .inl ⟨k _ _ (Ne.symm O.z) hz, a, b, k _ _ (Ne.symm O.TO) hTO⟩
  · exact .inr ⟨T, f, oT, k _ _ (Ne.symm O.z) hz, k _ _ r4 hT, r1, r2, r3, r4⟩
theorem zs_item {S : Addr} {Q : Option Value → Shared → Prop} (Sp : ZipSep2 z TI TO i1 i2 fp1 fp2) (D1 : Draws prog w A.in1 i1 fp1 n1 P1 St1) (D2 : Draws prog w A.in1 i2 fp2 n2 P2 St2) (Z : ZS z TI TO i1 i2 S St1 St2 i s.heap) (hlt1 : i < n1) (hlt2 : i < n2) (hS : S < s.heap.objs.size)
    (hQ : ∀ x1 x2 h' tk, P1 i x1 → P2 i x2 → ZS z TI TO i1 i2 S St1 St2 (i + 1) h' → IsTupOf2 h' s.heap.objs.size x1 x2 → h'.objs.size = s.heap.objs.size + 1 →
      (∀ c o, c ≠ z → c ≠ TO → c ≠ i1 → c ≠ i2 → s.heap.get? c = some o → h'.get? c = some o) → Q (some (.ref s.heap.objs.size)) { s with heap := h', toks := tk }) :
    wpAny (model prog w) A (pyNext (.ref z)) Q E s := by
  have hTy := zs_typeIs Z
  obtain ⟨hTI, st1, st2, hz⟩ := Z
  have lt : ∀ {c o}, s.heap.get? c = some o → s.heap.objs.size ≠ c := fun e => Nat.ne_of_gt (Heap.lt_size e)
  have n1' : s.heap.objs.size ≠ i1 := let ⟨_, e⟩ := D1.live i _ st1; lt e
  have n2' : s.heap.objs.size ≠ i2 := let ⟨_, e⟩ := D2.live i _ st2; lt e
  rcases hz with ⟨hz, a, b, hTO⟩ | ⟨T, f, oT, hz, hT, r1, r2, r3, r4⟩
  · refine wpAny_pyNext_zipD2_item Sp D1 D2 hz hTI hTO st1 st2 hlt1 hlt2 fun x1 x2 h' tk p1 p2 b1 b2 d1 d2 b5 b6 b7 => ?_
    exact hQ x1 x2 h' tk p1 p2 ⟨b7 _ _ Sp.TIz Sp.TITO Sp.TIi1 Sp.TIi2 hTI, d1, d2, .inr ⟨s.heap.objs.size, false, _, b1, b5, lt hz, n1', n2', Nat.ne_of_gt hS⟩⟩ b5 b6 b7
  · unfold pyNext
    refine wpAny_bind (wpAny_attempt (wpAny_callSpecial?_slot (name := Str.ofString "__next__") hTy F.slot_zip_next
      (wpAny_call_entry F.slot_zip_next hTy F.entry_zip_next
        (zipD2_item_held Sp D1 D2 hz hT hTI st1 st2 hlt1 hlt2 fun x1 x2 h' tk p1 p2 b1 d1 d2 b5 b6 b7 => wpAny_pure ?_) (F.args_zip_next_1 _))))
    exact hQ x1 x2 h' tk p1 p2 ⟨b7 _ _ Sp.TIz Sp.TIi1 Sp.TIi2 hTI, d1, d2, .inr ⟨T, true, oT, b1, b7 _ _ r1 r2 r3 hT, r1, r2, r3, r4⟩⟩ b5 b6 fun c o c1 _ c3 c4 e => b7 c o c1 c3 c4 e
theorem zs_end {S : Addr} {Q : Option Value → Shared → Prop} (Sp : ZipSep2 z TI TO i1 i2 fp1 fp2) (D1 : Draws prog w A.in1 i1 fp1 n1 P1 St1) (D2 : Draws prog w A.in1 i2 fp2 n2 P2 St2) (Z : ZS z TI TO i1 i2 S St1 St2 i s.heap) (hle1 : i ≤ n1) (hle2 : i ≤ n2) (hend : i = n1 ∨ i = n2)
    (hQ : ∀ h' tk, (∀ c o, c ≠ z → c ≠ TO → c ≠ i1 → c ≠ i2 → s.heap.get? c = some o → h'.get? c = some o) → Q none { s with heap := h', toks := tk }) : wpAny (model prog w) A (pyNext (.ref z)) Q E s := by
  have hTy := zs_typeIs Z
  obtain ⟨hTI, st1, st2, hz⟩ := Z
  rcases hz with ⟨hz, a, b, hTO⟩ | ⟨T, f, oT, hz, hT, r1, r2, r3, r4⟩
  · exact wpAny_pyNext_zipD2_end Sp D1 D2 hz hTI hTO st1 st2 hle1 hle2 hend hQ
  · unfold pyNext
    refine wpAny_bind (wpAny_attempt (wpAny_callSpecial?_slot (name := Str.ofString "__next__") hTy F.slot_zip_next
      (wpAny_call_entry F.slot_zip_next hTy F.entry_zip_next (zipD2_end_held Sp D1 D2 hz hT hTI st1 st2 hle1 hle2 hend fun h' tk e hk he => ?_) (F.args_zip_next_1 _))))
    obtain ⟨o, ho, hc⟩ := he
    refine wpAny_bind (wpAny_isInstance (T := "StopIteration") (b := true) ⟨o, ho, hc⟩ isSubtype_stop ?_)
    exact wpAny_pure (hQ _ _ fun c o c1 _ c3 c4 e => hk c o c1 c3 c4 e)
/-- the list's items: tuples in a row -/
def ZIt (P1 P2 : Nat → Value → Prop) (b0 : Nat) (acc : Array Value) (i : Nat) (h : Heap) : Prop := acc.size = i ∧ ∀ j, j < i → ∃ x y, acc[j]? = some (.ref (b0 + j)) ∧ P1 j x ∧ P2 j y ∧ IsTupOf2 h (b0 + j) x y
theorem ZIt.keep {b0 : Nat} {acc : Array Value} {h h' : Heap} (Z : ZIt P1 P2 b0 acc i h) (k : ∀ j, j < i → ∀ o, h.get? (b0 + j) = some o → h'.get? (b0 + j) = some o) : ZIt P1 P2 b0 acc i h' :=
  ⟨Z.1, fun j hj => let ⟨x, y, a, b, c, d⟩ := Z.2 j hj; ⟨x, y, a, b, c, k j hj _ d⟩⟩
end
section
variable {prog : Program} {w : World} {A : Around} {R : Result → Shared → Prop} {z TI TO i1 i2 : Addr} {fp1 fp2 : List Addr} {n1 n2 : Nat} {P1 P2 : Nat → Value → Prop} {St1 St2 : Nat → Heap → Prop}
theorem zs_loop (Sp : ZipSep2 z TI TO i1 i2 fp1 fp2) (D1 : Draws prog w A.in1.in1 i1 fp1 n1 P1 St1) (D2 : Draws prog w A.in1.in1 i2 fp2 n2 P2 St2) {S : Addr} (O : ZOff z TI TO i1 i2 fp1 fp2 S) (res : Value) {n b0 : Nat} (hn1 : n ≤ n1) (hn2 : n ≤ n2) (hend : n = n1 ∨ n = n2) (hn : n ≤ sizeLine)
    (hb : ∀ c ∈ [S, z, TO, i1, i2], c < b0) :
    ∀ (k i : Nat) (s : Shared) (acc : Array Value) (c : Nat), n - i = k → i ≤ n → ZS z TI TO i1 i2 S St1 St2 i s.heap → s.heap.get? S = some { cls := .type "list", dict := none, data := .seq acc c, slots := #[] } → s.heap.objs.size = b0 + i → ZIt P1 P2 b0 acc i s.heap →
    (∀ h' tk acc' c', (∀ b o, b ∉ [S, z, TO, i1, i2] → s.heap.get? b = some o → h'.get? b = some o) → h'.get? S = some { cls := .type "list", dict := none, data := .seq acc' c', slots := #[] } → ZIt P1 P2 b0 acc' n h' → R (.ok (.ret res)) { s with heap := h', toks := tk }) →
    codeAny (model prog w) A (.builtin "list.extend.loop" ⟨[.ref S, .ref z, res], []⟩) R s := by
  have out : ∀ j, b0 + j ∉ [S, z, TO, i1, i2] := fun j hm => Nat.lt_irrefl _ (Nat.lt_of_lt_of_le (hb _ hm) (Nat.le_add_right b0 j))
  have off : ∀ {b : Addr}, b ∉ [S, z, TO, i1, i2] → b ≠ S ∧ b ≠ z ∧ b ≠ TO ∧ b ≠ i1 ∧ b ≠ i2 := fun {b} h => by simpa using h
  have Sout : S ≠ z ∧ S ≠ TO ∧ S ≠ i1 ∧ S ≠ i2 := ⟨O.z, O.TO, fun e => O.f1 (e ▸ Sp.mem1), fun e => O.f2 (e ▸ Sp.mem2)⟩
  intro k
  induction k with
  | zero =>
    intro i s acc c hk hi Z hS hsz hacc hR
    have hin : i = n := by omega
    subst hin
    refine codeAny_builtin F.entry_extend_loop ?_
    rw [Around.under_plainId F.plain_extend_loop _]
    show wpAny _ A.in1 (pyNext (.ref z) >>= _) _ _ s
    refine wpAny_bind (zs_end Sp D1 D2 Z hn1 hn2 hend fun h' tk hk' => ?_)
    refine wpAny_pure (hR h' tk acc c (fun b o hb' e => ?_) ?_ ?_)
    · obtain ⟨_, q1, q2, q3, q4⟩ := off hb'
      exact hk' b o q1 q2 q3 q4 e
    · exact hk' _ _ Sout.1 Sout.2.1 Sout.2.2.1 Sout.2.2.2 hS
    · refine hacc.keep fun j hj o e => ?_
      obtain ⟨_, q1, q2, q3, q4⟩ := off (out j)
      exact hk' _ _ q1 q2 q3 q4 e
  | succ k ih =>
    intro i s acc c hk hi Z hS hsz hacc hR
    have hlt : i < n := by omega
    refine codeAny_builtin F.entry_extend_loop ?_
    rw [Around.under_plainId F.plain_extend_loop _]
    show wpAny _ A.in1 (pyNext (.ref z) >>= _) _ _ s
    refine wpAny_bind (zs_item Sp D1 D2 Z (by omega) (by omega) (Nat.lt_of_lt_of_le (hb S (by simp)) (by rw [hsz]; exact Nat.le_add_right _ _)) fun x1 x2 h' tk p1 p2 Z' hT hsz' hk' => ?_)
    have hS' : h'.get? S = some { cls := .type "list", dict := none, data := .seq acc c, slots := #[] } := hk' _ _ Sout.1 Sout.2.1 Sout.2.2.1 Sout.2.2.2 hS
    show wpAny _ A.in1 (updateSeq S (·.push (.ref s.heap.objs.size)) >>= _) _ _ _
    refine wpAny_bind ?_
    have oth : ∀ b o, b ≠ S → h'.get? b = some o → (h'.update S (Obj.mapSeq (·.push (.ref s.heap.objs.size)))).get? b = some o := fun b o hb' e => (Heap.get?_update_other _ _ (Ne.symm hb')).trans e
    refine wpAny_updateSeq (s := { s with heap := h', toks := tk }) hS' rfl (wpAny_pure ⟨plainId_quiet F.plain_extend_loop _, ih (i + 1) _ (acc.push (.ref s.heap.objs.size)) _ (by omega) hlt (zs_frame O D1 D2 Z' oth) (Heap.get?_update_self _ hS' rfl) ?_ ?_ fun h2 tk2 acc' c' q1 q2 q3 => ?_⟩)
      (by rw [hacc.1]; omega) (by show (acc.push _).size ≤ sizeLine + 1; rw [Array.size_push, hacc.1]; omega)
    · show (h'.update S _).objs.size = _
      rw [Heap.size_update, hsz', hsz]; omega
    · refine ⟨by rw [Array.size_push, hacc.1], fun j hj => ?_⟩
      by_cases e : j = i
      · subst e
        refine ⟨x1, x2, ?_, p1, p2, ?_⟩
        · rw [Array.getElem?_push, if_pos hacc.1.symm, hsz]
        · have := oth _ _ (Ne.symm (Nat.ne_of_lt (Nat.lt_of_lt_of_le (hb S (by simp)) (by rw [hsz]; exact Nat.le_add_right _ _)))) hT
          show (h'.update S (Obj.mapSeq fun x => x.push (Value.ref s.heap.objs.size))).get? (b0 + j) = _
          rw [← hsz]
          exact this
      · obtain ⟨x, y, a, b, c', d⟩ := hacc.2 j (by omega)
        refine ⟨x, y, ?_, b, c', ?_⟩
        · rw [Array.getElem?_push, if_neg (by rw [hacc.1]; omega)]; exact a
        · obtain ⟨q0, q1, q2, q3, q4⟩ := off (out j)
          exact oth _ _ q0 (hk' _ _ q1 q2 q3 q4 d)
    · refine hR h2 tk2 acc' c' (fun b o hb' e => q1 b o hb' ?_) q2 q3
      obtain ⟨r0, r1, r2, r3, r4⟩ := off hb'
      exact oth b o r0 (hk' b o r1 r2 r3 r4 e)
end
section
variable {prog : Program} {w : World} {A : Around} {E : Value → Shared → Prop} {s : Shared} {z TI TO i1 i2 : Addr} {fp1 fp2 : List Addr} {n1 n2 : Nat} {P1 P2 : Nat → Value → Prop} {St1 St2 : Nat → Heap → Prop}
theorem call_list_zip {Q : Value → Shared → Prop} {n : Nat} (Sp : ZipSep2 z TI TO i1 i2 fp1 fp2) (D1 : Draws prog w A.in1.in1.in1 i1 fp1 n1 P1 St1) (D2 : Draws prog w A.in1.in1.in1 i2 fp2 n2 P2 St2) (hz : IsZip s.heap z TI TO .none) (hTI : IsTupOf2 s.heap TI (.ref i1) (.ref i2)) (hTO : ∃ a b, IsTupOf2 s.heap TO a b) (st1 : St1 0 s.heap) (st2 : St2 0 s.heap)
    (hn1 : n ≤ n1) (hn2 : n ≤ n2) (hend : n = n1 ∨ n = n2) (hn : n ≤ sizeLine) (hf : ∀ b ∈ fp1 ++ fp2, b < s.heap.objs.size)
    (hQ : ∀ h' tk acc c, (∀ b o, b ∉ [z, TO, i1, i2] → s.heap.get? b = some o → h'.get? b = some o) → h'.get? s.heap.objs.size = some { cls := .type "list", dict := none, data := .seq acc c, slots := #[] } → ZIt P1 P2 (s.heap.objs.size + 1) acc n h' → Q (.ref s.heap.objs.size) { s with heap := h', toks := tk }) :
    wpAny (model prog w) A (call (.type "list") [.ref z]) Q E s := by
  have lz := Heap.lt_size hz
  have lTI := Heap.lt_size hTI
  have lTO := let ⟨a, b, h⟩ := hTO; Heap.lt_size h
  have li1 : i1 < s.heap.objs.size := hf _ (List.mem_append_left _ Sp.mem1)
  have li2 : i2 < s.heap.objs.size := hf _ (List.mem_append_right _ Sp.mem2)
  have O : ZOff z TI TO i1 i2 fp1 fp2 s.heap.objs.size := ⟨Nat.ne_of_gt lz, Nat.ne_of_gt lTI, Nat.ne_of_gt lTO, fun h => Nat.lt_irrefl _ (hf _ (List.mem_append_left _ h)), fun h => Nat.lt_irrefl _ (hf _ (List.mem_append_right _ h))⟩
  refine callType_codes (Q₁ := fun obj s₁ => obj = .ref s.heap.objs.size ∧ s₁ = { s with heap := s.heap.push { cls := .type "list", data := .seq #[] } }) F.called_list (F.typeCall_list_1 _) F.entry_list_init
    (code_list_new _ ⟨rfl, rfl⟩) fun obj s₁ h₁ => ?_
  obtain ⟨rfl, rfl⟩ := h₁
  have hS : (s.heap.push { cls := .type "list", data := .seq #[] }).get? s.heap.objs.size = some { cls := .type "list", data := .seq #[] } := Heap.get?_push_size _ rfl
  refine ⟨⟨_, hS, rfl⟩, F.args_list_init_2 _ _, ?_⟩
  have k0 : ∀ b o, s.heap.get? b = some o → (s.heap.push { cls := .type "list", data := .seq #[] }).get? b = some o := fun b o e => Heap.get?_push_of_some _ e
  have Z0 : ZS z TI TO i1 i2 s.heap.objs.size St1 St2 0 s.heap := ⟨hTI, st1, st2, .inl ⟨hz, hTO⟩⟩
  have sz0 : (s.heap.push { cls := .type "list", data := .seq #[] }).objs.size = s.heap.objs.size + 1 := Heap.size_push ..
  generalize hG : s.heap.push { cls := .type "list", data := .seq #[] } = G at hS k0 sz0 ⊢
  show wpAny _ A.in1.in1 (do let old ← Builtin.List.listItems (.ref s.heap.objs.size); Builtin.List.listUpdate (.ref s.heap.objs.size) (fun _ => #[]); letGo old.toList.reverse; Builtin.List.listExtendWith (.ref s.heap.objs.size) (.ref z) .none) _ _ { s with heap := G }
  refine wpAny_bind ?_
  unfold Builtin.List.listItems
  refine wpAny_bind (wpAny_seqItems (s := { s with heap := G }) hS rfl (wpAny_pure ?_))
  show wpAny _ A.in1.in1 (updateSeq s.heap.objs.size (fun _ => #[]) >>= fun _ => letGo (#[] : Array Value).toList.reverse >>= fun _ => Builtin.List.listExtendWith (.ref s.heap.objs.size) (.ref z) .none) _ _ { s with heap := G }
  refine wpAny_bind (wpAny_updateSeq (s := { s with heap := G }) hS rfl ?_)
  have hS₂ := Heap.get?_update_self (Obj.mapSeq (fun _ => (#[] : Array Value))) hS rfl
  have oth : ∀ b o, b ≠ s.heap.objs.size → G.get? b = some o → (G.update s.heap.objs.size (Obj.mapSeq (fun _ => (#[] : Array Value)))).get? b = some o :=
    fun b o hb e => (Heap.get?_update_other _ _ (Ne.symm hb)).trans e
  have sz1 : (G.update s.heap.objs.size (Obj.mapSeq (fun _ => (#[] : Array Value)))).objs.size = s.heap.objs.size + 1 := by rw [Heap.size_update, sz0]
  generalize hG1 : G.update s.heap.objs.size (Obj.mapSeq (fun _ => (#[] : Array Value))) = G1 at hS₂ oth sz1 ⊢
  refine wpAny_bind (wpAny_letGo ?_)
  have Z1 : ZS z TI TO i1 i2 s.heap.objs.size St1 St2 0 G1 := zs_frame O D1 D2 Z0 fun b o hb e => oth b o hb (k0 b o e)
  unfold Builtin.List.listExtendWith
  refine wpAny_bind (wpAny_typeOf (s := { s with heap := G1 }) (zs_typeIs (s := { s with heap := G1 }) Z1) ?_)
  have h1 : Builtin.List.listSameRef (.ref s.heap.objs.size) (.ref z) = false := by simp [Builtin.List.listSameRef, Nat.ne_of_gt lz]
  have h2 : (Value.type "zip" == Value.type "list") = false := by decide
  have h3 : (Value.type "zip" == Value.type "tuple") = false := by decide
  simp only [h1, h2, h3, Bool.or_false, Bool.false_eq_true, if_false]
  have hz1 : IsZip G1 z TI TO .none := oth _ _ (Nat.ne_of_lt lz) (k0 _ _ hz)
  refine wpAny_bind (wpAny_pyIter_zip (s := { s with heap := G1 }) hz1 ?_)
  refine wpAny_bind (wpAny_holding ?_)
  unfold Builtin.List.listLengthHint
  refine wpAny_bind (wpAny_specialOf (zs_typeIs (s := { s with heap := G1 }) Z1) F.zip_no_len ?_)
  show wpAny _ A.in1.in1 (specialOf (Value.ref z) (Str.ofString "__length_hint__") >>= _) _ _ _
  refine wpAny_bind (wpAny_specialOf (zs_typeIs (s := { s with heap := G1 }) Z1) F.zip_no_hint ?_)
  refine wpAny_pure ?_
  show wpAny _ A.in1.in1 (rule "list.extend.makes-room" >>= fun _ => Builtin.List.listTouch (.ref s.heap.objs.size) >>= fun _ =>
    again (.builtin "list.extend.loop" ⟨[.ref s.heap.objs.size, .ref z, .none], []⟩)) _ _ _
  refine wpAny_bind (wpAny_rule ?_)
  refine wpAny_bind ?_
  show wpAny _ A.in1.in1 (updateSeq s.heap.objs.size (·.push .none) >>= fun _ => updateSeq s.heap.objs.size (·.pop)) _ _ _
  refine wpAny_bind (wpAny_updateSeq (s := { s with heap := G1 }) hS₂ rfl ?_)
  have hS3 := Heap.get?_update_self (Obj.mapSeq (·.push Value.none)) hS₂ rfl
  refine wpAny_updateSeq (hz := by seq_fits) hS3 rfl ?_
  have hS4 := Heap.get?_update_self (Obj.mapSeq (·.pop)) hS3 rfl
  have oth2 : ∀ b o, b ≠ s.heap.objs.size → G1.get? b = some o → ((G1.update s.heap.objs.size (Obj.mapSeq (·.push Value.none))).update s.heap.objs.size (Obj.mapSeq (·.pop))).get? b = some o :=
    fun b o hb e => (Heap.get?_update_other _ _ (Ne.symm hb)).trans ((Heap.get?_update_other _ _ (Ne.symm hb)).trans e)
  have sz2 : ((G1.update s.heap.objs.size (Obj.mapSeq (·.push Value.none))).update s.heap.objs.size (Obj.mapSeq (·.pop))).objs.size = s.heap.objs.size + 1 := by rw [Heap.size_update, Heap.size_update, sz1]
  refine wpAny_pure ⟨plainId_quiet F.plain_extend_loop _, zs_loop (b0 := s.heap.objs.size + 1) (n := n) Sp D1 D2 O .none hn1 hn2 hend hn ?_ n 0 _ _ _ rfl (Nat.zero_le _) (zs_frame O D1 D2 Z1 oth2) hS4 sz2 ⟨rfl, fun j hj => by omega⟩ fun h' tk acc c q1 q2 q3 => ?_⟩
  · intro c hc
    simp only [List.mem_cons, List.not_mem_nil, or_false] at hc
    rcases hc with rfl | rfl | rfl | rfl | rfl
    · exact Nat.lt_succ_self _
    · exact Nat.lt_succ_of_lt lz
    · exact Nat.lt_succ_of_lt lTO
    · exact Nat.lt_succ_of_lt li1
    · exact Nat.lt_succ_of_lt li2
  · refine ⟨rfl, hQ h' tk acc c (fun b o hb e => ?_) q2 q3⟩
    have hne : b ≠ s.heap.objs.size := Nat.ne_of_lt (Heap.lt_size e)
    exact q1 b o (by simp only [List.mem_cons, not_or] at hb ⊢; exact ⟨hne, hb⟩) (oth2 b o hne (oth b o hne (k0 b o e)))
end
end PySem
set_option Elab.async false
set_option linter.all false
set_option maxRecDepth 100000
set_option maxHeartbeats 4000000
namespace DL
open PySem PySem.Spec PyProof.Rows L2
/-- nothing knows a yet -/
structure NewA (X : Cx) (pins : List (Addr × Obj)) (H : Hp) (a : Addr) : Prop where
  n : H a = none
  s : X.s_0.heap.objs.size ≤ a
  l : a ≠ X.env.locals
  c : ∀ x c, X.env.cells.lookup x = some c → c ≠ a
  p : ∀ p ∈ X.pn ++ pins, p.1 ≠ a
theorem newA {X : Cx} {pins : List (Addr × Obj)} {σ : L2.St} {H : Hp} {s : Shared} (I : Inv X pins σ H s) {a : Addr} (h : s.heap.objs.size ≤ a) : NewA X pins H a := by
  refine ⟨I.hok.fresh h, Nat.le_trans I.sz h, fun z => ?_, fun y c e z => ?_, fun q hq z => ?_⟩
  · exact Nat.lt_irrefl _ (Nat.lt_of_lt_of_le (show a < s.heap.objs.size from by rw [z]; exact I.lt) h)
  · obtain ⟨v, o, ho, _⟩ := I.cell y c e
    exact Nat.lt_irrefl _ (Nat.lt_of_lt_of_le (show a < s.heap.objs.size from by rw [← z]; exact Heap.lt_size ho) h)
  · exact Nat.lt_irrefl _ (Nat.lt_of_lt_of_le (show a < s.heap.objs.size from by rw [← z]; exact Heap.lt_size (I.pin q hq).1) h)
theorem NewA.upd {X : Cx} {pins : List (Addr × Obj)} {H : Hp} {a b : Addr} {o : HO} (h : NewA X pins H a) (hb : a ≠ b) : NewA X pins (upd H b o) a := ⟨by rw [upd_ne hb]; exact h.n, h.s, h.l, h.c, h.p⟩
theorem NewA.track {X : Cx} {pins : List (Addr × Obj)} {σ : L2.St} {H : Hp} {s : Shared} {a : Addr} {o : HO} (h : NewA X pins H a) (I : Inv X pins σ H s) (ho : ObjOk X.prog X.w (L2.upd H a o) s.heap a o) : Inv X pins σ (L2.upd H a o) s := HD.inv_track I h.n h.s h.l h.c h.p ho
variable [TabCtx]
/-- pairs in a row come to be known -/
theorem lay_pairs {X : Cx} {pins : List (Addr × Obj)} {σ : L2.St} {s : Shared} : ∀ (ps : List (L2.V × L2.V)) (b : Nat) (H V : Hp), Inv X pins σ H s → Same V H → (∀ j, j < ps.length → NewA X pins H (b + j)) →
    (∀ (j : Nat) p, ps[j]? = some p → ∃ u v, RelV p.1 u ∧ RelV p.2 v ∧ s.heap.get? (b + j) = some { cls := .type "tuple", data := .seq #[u, v] }) →
    ∃ H' V', Inv X pins σ H' s ∧ Ext H V H' V' ∧ (∀ a, (∀ j, j < ps.length → a ≠ b + j) → H' a = H a) ∧ ∀ (j : Nat) p, ps[j]? = some p → V' (b + j) = some (.tup [p.1, p.2])
  | [], b, H, V, I, sv, _, _ => ⟨H, V, I, Ext.refl sv, fun _ _ => rfl, fun j p h => by simp at h⟩
  | p :: ps, b, H, V, I, sv, hn, ho => by
    have n0 := hn 0 (by simp)
    obtain ⟨u, v, ru, rv, hT⟩ := ho 0 p rfl
    have I1 := n0.track (o := .tup [p.1, p.2]) I ⟨by rw [sizeLine_eq]; simp, [u, v], .cons ru (.cons rv .nil), ⟨_, hT, rfl, _, rfl⟩⟩
    have x1 : Ext H V (upd H (b + 0) (.tup [p.1, p.2])) (upd V (b + 0) (.tup [p.1, p.2])) := Ext.new sv n0.n
    obtain ⟨H', V', I2, x2, k2, q2⟩ := lay_pairs ps (b + 1) _ _ I1 x1.s (fun j hj => by
      have := hn (j + 1) (by simp; omega)
      rw [show b + (j + 1) = b + 1 + j by omega] at this
      exact this.upd (by intro z; have : b + 1 + j = b + 0 := z; omega)) (fun j q hq => by
      have := ho (j + 1) q (by simpa using hq)
      rw [show b + (j + 1) = b + 1 + j by omega] at this
      exact this)
    refine ⟨H', V', I2, x1.trans x2, fun a ha => ?_, fun j q hq => ?_⟩
    · rw [k2 a fun j hj => by
        have := ha (j + 1) (by simp; omega)
        rw [show b + (j + 1) = b + 1 + j by omega] at this
        exact this]
      exact upd_ne (ha 0 (by simp))
    · cases j with
      | zero =>
        have e : p = q := by simpa using hq
        subst e
        exact x2.v _ _ upd_same
      | succ j =>
        rw [show b + (j + 1) = b + 1 + j by omega]
        exact q2 j q (by simpa using hq)
theorem rep_pairs {K : KW} {V V' : Hp} (sv : Same V V') : ∀ {xs ys : List L2.V} {ds es : List PyData} (b : Nat), RepL K V xs ds → RepL K V ys es → (∀ (j : Nat) p, (xs.zip ys)[j]? = some p → V' (b + j) = some (.tup [p.1, p.2])) → RepL K V' ((List.range (xs.zip ys).length).map fun j => .ref (b + j)) (zipD ds es)
  | _, _, _, _, b, .nil, _, _ => by simp [zipD]; exact .nil
  | _, _, _, _, b, .cons _ _, .nil, _ => by simp [zipD]; exact .nil
  | x :: xs, y :: ys, d :: ds, e :: es, b, .cons r t, .cons r' t', h => by
    have h0 := h 0 (x, y) rfl
    have ih := rep_pairs sv (b + 1) t t' (fun j p hp => by
      have := h (j + 1) p (by simpa using hp)
      rw [show b + (j + 1) = b + 1 + j by omega] at this
      exact this)
    rw [List.zip_cons_cons, List.length_cons, List.range_succ_eq_map, List.map_cons, List.map_map]
    refine .cons (.tup h0 (.cons (r.mono sv) (.cons (r'.mono sv) .nil))) ?_
    have e : ((fun j => L2.V.ref (b + j)) ∘ Nat.succ) = fun j => L2.V.ref (b + 1 + j) := by
      funext j; show L2.V.ref (b + (j + 1)) = _; rw [show b + (j + 1) = b + 1 + j by omega]
    rw [e]
    exact ih
def seqD : PyData → Option (List PyData)
  | .list ds => some ds
  | .tuple ds => some ds
  | _ => none
/-- what a list or a tuple gives to zip -/
structure SeqB (prog : Program) (w : World) (s : Shared) (a : Addr) (its : List Value) (o : Obj) (Hh : Heap → Prop) (St : Addr → Nat → Heap → Prop) : Prop where
  B : Begins (.ref a) o Hh
  hh : Hh s.heap
  D : ∀ (A : Around) (it : Addr), A.handled = none → a ≠ it → Draws prog w A it [it, a] its.length (fun i v => its[i]? = some v) (St it)
  st : ∀ (h : Heap) (it : Addr), h.get? it = some o → Hh h → St it 0 h
  lt : a < s.heap.objs.size
theorem seqB {X : Cx} {pins : List (Addr × Obj)} {σ : L2.St} {H V : Hp} {s : Shared} {K : KW} (I : Inv X pins σ H s) (sv : Same V H) {x : L2.V} {d : PyData} {ds : List PyData} (r : Rep K V x d) (hd : seqD d = some ds) : ∃ a xs its o Hh St, x = .ref a ∧ RepL K V xs ds ∧ Vals xs its ∧ SeqB X.prog X.w s a its o Hh St := by
  cases r with
  | @lst a xs es h rl =>
    have e : es = ds := by injection hd
    subst e
    obtain ⟨its, rv, pl, hz⟩ := I.list (.inl (.inl (sv _ _ h)))
    refine ⟨a, xs, its, _, _, fun it i h => h.IsListIter it a i ∧ h.IsList a its.toArray, rfl, rl, rv, begins_list a its.toArray, pl.isList, fun A it hh hne => ?_, fun h it e hl => ⟨⟨_, e, rfl, rfl⟩, hl⟩, pl.lt⟩
    have D := Draws.list (prog := X.prog) (w := X.w) (A := A) hh it a hne its.toArray
    simp only [List.size_toArray, List.getElem?_toArray] at D
    exact D
  | @tup a xs es h rl =>
    have e : es = ds := by injection hd
    subst e
    obtain ⟨its, rv, pl, hz⟩ := I.tuple (.inl (.inl (sv _ _ h)))
    refine ⟨a, xs, its, _, _, fun it i h => h.IsTupleIter it a i ∧ h.IsTuple a its.toArray, rfl, rl, rv, begins_tuple a its.toArray, pl, fun A it hh hne => ?_, fun h it e hl => ⟨⟨_, e, rfl, rfl⟩, hl⟩, let ⟨o, ho, _⟩ := pl; Heap.lt_size ho⟩
    have D := Draws.tuple (prog := X.prog) (w := X.w) (A := A) hh it a hne its.toArray
    simp only [List.size_toArray, List.getElem?_toArray] at D
    exact D
  | _ => cases hd
def gLZip : List PyData → Option PyData
  | [a, b] => (seqD a).bind fun xs => (seqD b).bind fun ys => if xs.length ≤ LIM then some (.list (zipD xs ys)) else none
  | _ => none
theorem neq {x y : Nat} (h : x < y ∨ y < x) : x ≠ y := by omega
theorem nin {x y z : Nat} (h1 : x < y ∨ y < x) (h2 : x < z ∨ z < x) : x ∉ [y, z] := by simp; omega
theorem zsep {n a b : Nat} (la : a < n) (lb : b < n) : ZipSep2 (n + 4) (n + 2) (n + 3) n (n + 1) [n, a] [n + 1, b] :=
  have c1 : n + 2 < n + 4 ∨ n + 4 < n + 2 := by omega
  have c2 : n + 3 < n + 4 ∨ n + 4 < n + 3 := by omega
  have c3 : n + 2 < n + 3 ∨ n + 3 < n + 2 := by omega
  have c4 : n + 2 < n ∨ n < n + 2 := by omega
  have c5 : n + 4 < n ∨ n < n + 4 := by omega
  have c6 : n + 4 < a ∨ a < n + 4 := by omega
  have c7 : n + 3 < n ∨ n < n + 3 := by omega
  have c8 : n + 3 < a ∨ a < n + 3 := by omega
  have c9 : n + 2 < n + 1 ∨ n + 1 < n + 2 := by omega
  have d1 : n + 4 < n + 1 ∨ n + 1 < n + 4 := by omega
  have d2 : n + 4 < b ∨ b < n + 4 := by omega
  have d3 : n + 3 < n + 1 ∨ n + 1 < n + 3 := by omega
  have d4 : n + 3 < b ∨ b < n + 3 := by omega
  have d5 : n < n + 1 ∨ n + 1 < n := by omega
  have d6 : n < b ∨ b < n := by omega
  have d7 : n + 1 < n ∨ n < n + 1 := by omega
  have d8 : n + 1 < a ∨ a < n + 1 := by omega
  ⟨neq c1, neq c2, neq c3, neq c4, by simp, nin c5 c6, nin c7 c8, neq c9, by simp, nin d1 d2, nin d3 d4, nin d5 d6, nin d7 d8⟩
theorem vals_refs {acc : Array Value} {n b : Nat} (hl : acc.size = n) (h : ∀ j, j < n → acc[j]? = some (.ref (b + j))) : Vals ((List.range n).map fun j => L2.V.ref (b + j)) acc.toList := by
  have e : acc.toList = (List.range n).map fun j => Value.ref (b + j) := by
    apply List.ext_getElem?
    intro j
    by_cases hj : j < n
    · rw [Array.getElem?_toList, h j hj, List.getElem?_map, List.getElem?_range hj]; rfl
    · rw [Array.getElem?_toList, Array.getElem?_eq_none (by omega), List.getElem?_map, List.getElem?_eq_none (by simp; omega)]; rfl
  rw [e]
  have : ∀ l : List Nat, Vals (l.map fun j => L2.V.ref (b + j)) (l.map fun j => Value.ref (b + j)) := fun l => by
    induction l with
    | nil => exact .nil
    | cons x l ih => exact .cons rfl ih
  exact this _
section
variable {X : Cx} {F : Fr} {e e2 : Expr} {fs : M (List PyData)} {p p2 pos pos2 : Pos}
theorem pm_lzip (hm : X.mg "list" = none) (hmz : X.mg "zip" = none) (ha : PMA X F [e, e2] fs) (hg : Gl X "list" := by rfl) (hgz : Gl X "zip" := by rfl) (hc : X.calm = true := by rfl)
    (na : starEach [.Call (.Name "zip" p2) [e, e2] [] pos2] X.env = (false, eval (.Call (.Name "zip" p2) [e, e2] [] pos2) X.env) :: starEach [] X.env := by rfl)
    (hs : starEach [e, e2] X.env = (false, eval e X.env) :: starEach [e2] X.env := by rfl) (hpl : (backTo pos2 (starEach [e2] X.env)).any (·.1) = false := by rfl) :
    PM X F (.Call (.Name "list" p) [.Call (.Name "zip" p2) [e, e2] [] pos2] [] pos) (opA gLZip fs) := by
  refine ⟨fun pins s σ H Q I ⟨V, ρ, E, g0⟩ => ?_⟩
  refine Call_ (ld_blt I hg hm boot_list (PyProof.Rows.callWith_type1 (args_cons (thn (Q := fun x s1 => wpAny (model X.prog X.w) X.A (call (.type "list") [x]) (EP X pins σ Q) X.xe s1) ?_ fun x s1 h => args_nil h) na) na))
  refine Call_ (ld_blt I hgz hmz PyProof.Rows.boot_zip (PyProof.Rows.callWith_type1 (thn (ha.run pos2 pins s σ H (fun vs H1 => ∃ V1 ρ1 ds z, EnvR X.kw F H1 V1 σ ρ1 ∧ RepL X.kw V1 vs ds ∧ gLZip ds = some z ∧ ∀ v H2 V2, Ext H1 V1 H2 V2 → Rep X.kw V2 v z → Q v H2) I ⟨V, ρ, E, Goal.bind g0 fun vs ds H1 V1 ρ1 st1 r1 g1 => ?_⟩) fun us s1 ⟨vs, H1, I1, rv, V1, ρ1, ds, z, E1, rl, ez, q⟩ => ?_) hs hpl))
  · obtain ⟨z, ez, q⟩ := Goal.opt st1.env g1
    exact ⟨V1, ρ1, ds, z, st1.env, r1, ez, q⟩
  · have sv := E1.sub
    cases rl with
    | nil => cases ez
    | cons r1 rl =>
      cases rl with
      | nil => cases ez
      | cons r2 rl =>
        cases rl with
        | cons _ _ => cases ez
        | nil =>
          rename_i x1 d1 x2 d2
          cases rv with
          | cons rv1 rv =>
            cases rv with
            | cons rv2 rv =>
              cases rv
              have ez : ((seqD d1).bind fun xs => (seqD d2).bind fun ys => if xs.length ≤ LIM then some (PyData.list (zipD xs ys)) else none) = some z := ez
              obtain ⟨ds1, hd1, ez⟩ := Option.bind_eq_some_iff.mp ez
              obtain ⟨ds2, hd2, ez⟩ := Option.bind_eq_some_iff.mp ez
              obtain ⟨hlim, rfl⟩ := ite_some ez
              obtain ⟨a, xs, its1, o1, H1', St1, rfl, rx, vx, B1⟩ := seqB I1 sv r1 hd1
              obtain ⟨b, ys, its2, o2, H2', St2, rfl, ry, vy, B2⟩ := seqB I1 sv r2 hd2
              cases rv1
              cases rv2
              refine zip_begins2 B1.B B2.B B1.hh B2.hh fun h' hz hTI hTO g1 g2 hsz hk => ?_
              have la := B1.lt
              have lb := B2.lt
              have hh : X.A.handled = none := I1.ok.hd hc
              have ne1 : a ≠ s1.heap.objs.size := Nat.ne_of_lt la
              have ne2 : b ≠ s1.heap.objs.size + 1 := Nat.ne_of_lt (Nat.lt_succ_of_lt lb)
              have D1 := B1.D X.A.in1.in1.in1 s1.heap.objs.size hh ne1
              have D2 := B2.D X.A.in1.in1.in1 (s1.heap.objs.size + 1) hh ne2
              have Sp : ZipSep2 (s1.heap.objs.size + 4) (s1.heap.objs.size + 2) (s1.heap.objs.size + 3) s1.heap.objs.size (s1.heap.objs.size + 1) [s1.heap.objs.size, a] [s1.heap.objs.size + 1, b] := zsep la lb
              have hlx := vx.length
              have hly := vy.length
              have hdx := rx.length
              have hdy := ry.length
              have hz63 : min its1.length its2.length ≤ sizeLine := by
                have : its1.length ≤ 1000000 := by rw [← hlx, hdx]; exact hlim
                rw [sizeLine_eq]; omega
              refine call_list_zip (n := min its1.length its2.length) (s := { s1 with heap := h' }) Sp D1 D2 hz hTI ⟨_, _, hTO⟩ (B1.st _ _ g1 (B1.B.keeps _ _ B1.hh hk)) (B2.st _ _ g2 (B2.B.keeps _ _ B2.hh hk)) (Nat.min_le_left ..) (Nat.min_le_right ..) (by omega) hz63 ?_ fun h2 tk acc c k2 hl2 it => ?_
              · intro c hcm
                show c < h'.objs.size
                rw [hsz]
                simp only [List.cons_append, List.nil_append, List.mem_cons, List.not_mem_nil, or_false] at hcm
                rcases hcm with rfl | rfl | rfl | rfl
                · exact Nat.lt_add_of_pos_right (by decide)
                · exact Nat.lt_add_right _ la
                · exact Nat.add_lt_add_left (by decide) _
                · exact Nat.lt_add_right _ lb
              · have hs5 : ({ s1 with heap := h' } : Shared).heap.objs.size = s1.heap.objs.size + 5 := hsz
                rw [hs5] at hl2 it ⊢
                have kk : ∀ c o, s1.heap.get? c = some o → h2.get? c = some o := fun c o e => by
                  have lt := Heap.lt_size e
                  refine k2 c o ?_ (hk c o e)
                  intro hm'
                  simp only [List.mem_cons, List.not_mem_nil, or_false] at hm'
                  rcases hm' with rfl | rfl | rfl | rfl
                  · exact Nat.lt_irrefl _ (Nat.lt_of_le_of_lt (Nat.le_add_right _ _) lt)
                  · exact Nat.lt_irrefl _ (Nat.lt_of_le_of_lt (Nat.le_add_right _ _) lt)
                  · exact Nat.lt_irrefl _ lt
                  · exact Nat.lt_irrefl _ (Nat.lt_of_le_of_lt (Nat.le_add_right _ _) lt)
                have I2 : L2.Inv X pins σ H1 { s1 with heap := h2, toks := tk } := I1.kept kk
                have hzl : (xs.zip ys).length = min its1.length its2.length := by rw [List.length_zip, hlx, hly]
                obtain ⟨H3, V3, I3, x3, k3, q3⟩ := lay_pairs (xs.zip ys) (s1.heap.objs.size + 5 + 1) H1 V1 I2 sv (fun j hj => newA I1 (Nat.le_trans (Nat.le_add_right _ 6) (Nat.le_add_right _ j))) (fun j p hp => by
                  obtain ⟨hp1, hp2⟩ := List.getElem?_zip_eq_some.mp hp
                  obtain ⟨u, hu, ru⟩ := vx.get hp1
                  obtain ⟨v, hv, rv⟩ := vy.get hp2
                  have hj : j < min its1.length its2.length := by
                    rw [← hzl]; exact (List.getElem?_eq_some_iff.mp hp).1
                  obtain ⟨u', v', _, p1, p2, hT⟩ := it.2 j hj
                  rw [hu] at p1; cases p1
                  rw [hv] at p2; cases p2
                  exact ⟨u, v, ru, rv, hT⟩)
                have hS : NewA X pins H3 (s1.heap.objs.size + 5) := by
                  have h0 := newA I1 (a := s1.heap.objs.size + 5) (Nat.le_add_right _ _)
                  exact ⟨by rw [k3 _ fun j hj z => absurd (show (s1.heap.objs.size + 5 : Nat) = s1.heap.objs.size + 5 + 1 + j from z) (by omega)]; exact h0.n, h0.s, h0.l, h0.c, h0.p⟩
                have hvals : Vals ((List.range (xs.zip ys).length).map fun j => L2.V.ref (s1.heap.objs.size + 5 + 1 + j)) acc.toList := by
                  rw [hzl]
                  refine vals_refs it.1 fun j hj => ?_
                  obtain ⟨_, _, e, _⟩ := it.2 j hj
                  exact e
                have I4 := hS.track (o := .lst ((List.range (xs.zip ys).length).map fun j => L2.V.ref (s1.heap.objs.size + 5 + 1 + j))) I3 ⟨by rw [List.length_map, List.length_range, hzl]; exact hz63, acc.toList, c, hvals, by rw [Array.toArray_toList]; exact hl2⟩
                refine ⟨.ref (s1.heap.objs.size + 5), _, I4, rfl, q _ _ _ (x3.trans (Ext.new x3.s hS.n)) (.lst upd_same ?_)⟩
                refine (rep_pairs x3.v _ rx ry q3).mono (same_new (x3.s.free hS.n))
end
end DL
set_option Elab.async false
set_option linter.all false
set_option maxRecDepth 100000
set_option maxHeartbeats 4000000
namespace DL
open PySem PySem.Spec PyProof.Rows L2
variable [TabCtx]
theorem RepL.cons_inv {K : KW} {V : Hp} {vs : List L2.V} {d : PyData} {ds : List PyData} (r : RepL K V vs (d :: ds)) : ∃ v ws, vs = v :: ws ∧ Rep K V v d ∧ RepL K V ws ds := by
  cases r with
  | cons a b => exact ⟨_, _, rfl, a, b⟩
end DL
set_option Elab.async false
set_option linter.all false
set_option maxRecDepth 100000
set_option maxHeartbeats 4000000
namespace DL
open PySem PySem.Spec PyProof.Rows L2
section
variable {X : Cx} {pins : List (Addr × Obj)} {σ : L2.St} {H : Hp} {s : Shared}
theorem inv_pin {d : Addr} {o : Obj} (I : L2.Inv X pins σ H s) (h : s.heap.get? d = some o) (n : NewA X pins H d) (hf : d ∉ X.fs) (hc : ∀ v, o.data ≠ .cell v) : L2.Inv X ((d, o) :: pins) σ H s :=
  ⟨I.ok, I.os, I.bare, I.base, I.loc, I.cell, I.free, I.freeC, fun p hp => by
    rcases List.mem_append.mp hp with z | z
    · exact I.pin p (List.mem_append_left _ z)
    · rcases List.mem_cons.mp z with e | e
      · subst e; exact ⟨h, n.n, n.l, hf, hc⟩
      · exact I.pin p (List.mem_append_right _ e), I.hok, I.len⟩
theorem inv_unpin {p : Addr × Obj} (I : L2.Inv X (p :: pins) σ H s) : L2.Inv X pins σ H s :=
  ⟨I.ok, I.os, I.bare, I.base, I.loc, I.cell, I.free, I.freeC, fun q hq => I.pin q (by
    rcases List.mem_append.mp hq with z | z
    · exact List.mem_append_left _ z
    · exact List.mem_append_right _ (List.mem_cons_of_mem _ z)), I.hok, I.len⟩
end
def tD1 (w : World) (tk tv : TE) : TE := fun σ H Q => tk σ H fun x H1 => tv σ H1 fun y H2 =>
  (∃ q, x = kV q ∧ ∀ p, H2 p = none → Q (.ref p) (upd H2 p (.dK [(q, y)]))) ∨ ∃ k b, x = .ref b ∧ NAt H2 k (.ref b) ∧ k.depth ≤ 8 ∧ ∀ p ep, H2 p = none → Q (.ref p) (upd H2 p (dX w p [(k, b, y)] ep))
variable [TabCtx]
section
variable {X : Cx} {ke ve : Expr} {tk tv : TE} {pos : Pos}
theorem pe_d1 (hu : X.A.units + 64 < cLine) (hk : PE X ke tk) (hv : PE X ve tv)
    (hshape : (evalEachOpt [some ke] X.env).zip ((evalEach [ve] X.env).map fun v => do let x ← v; standAt pos; pure x) = [(some (eval ke X.env), do let x ← eval ve X.env; standAt pos; pure x)] := by rfl) : PE X (.Dict [some ke] [ve] pos) (tD1 X.w tk tv) := by
  refine ⟨fun pins s σ H Q I h => ?_⟩
  rw [arm_eval_Dict, hshape]
  rw [show [(some (eval ke X.env), do let x ← eval ve X.env; standAt pos; pure x)] = [(eval ke X.env, do let x ← eval ve X.env; standAt pos; pure x)].map (fun p : Sem Value × Sem Value => (some p.1, p.2)) from rfl, dictDisplay_pairs _ (by simp) (by simp)]
  refine wpAny_bind (wpAny_standAt (wpAny_bind ?_))
  unfold subDict
  refine wpAny_bind (wpAny_alloc ?_)
  refine wpAny_bind (wpAny_holding ?_)
  rw [if_pos (by simp)]
  have kp0 : ∀ b u, s.heap.get? b = some u → (s.heap.push { cls := .type "dict", data := .dict #[] }).get? b = some u := fun _ _ q => Heap.get?_push_of_some _ q
  have I0 : L2.Inv X pins σ H { s with heap := s.heap.push { cls := .type "dict", data := .dict #[] } } := I.kept (t' := s.toks) kp0
  have n0 : NewA X pins H s.heap.objs.size := newA I (Nat.le_refl _)
  have I1 := inv_pin I0 (Heap.get?_push_size _ rfl) n0 (I.nofs (Nat.le_refl _)) (fun v z => by cases z)
  have hbig : (s.heap.objs.size == sysModules) = false := beq_eq_false_iff_ne.mpr (Ne.symm (Nat.ne_of_lt I.big))
  refine wpAny_bind ?_
  unfold evalPairs
  refine wpAny_bind (thn (hk.run _ _ σ H _ I1 h) fun ku s1 ⟨x, H1, I2, rk, q1⟩ => ?_)
  refine wpAny_bind (wpAny_holding (wpAny_bind (thn (hv.run _ s1 σ H1 _ I2 q1) fun vu s2 ⟨y, H2, I3, rv, q2⟩ => wpAny_bind (wpAny_standAt (wpAny_pure ?_)))))
  unfold evalPairs
  refine wpAny_bind (wpAny_holding (wpAny_pure (wpAny_pure ?_)))
  refine wpAny_holding ?_
  rw [List.forIn_cons]
  obtain ⟨hd, hn, _⟩ := I3.pin (s.heap.objs.size, _) (List.mem_append_right _ List.mem_cons_self)
  have I4 := inv_unpin I3
  have n4 : NewA X pins H2 s.heap.objs.size := ⟨hn, n0.s, n0.l, n0.c, n0.p⟩
  have fin : ∀ {h' : Heap} {t' : Nat} {o : HO}, Heap.SameBut s.heap.objs.size s2.heap h' → ObjOk X.prog X.w (upd H2 s.heap.objs.size o) h' s.heap.objs.size o → L2.Inv X pins σ (upd H2 s.heap.objs.size o) { s2 with heap := h', toks := t' } := fun {h' t' o} sb ob =>
    n4.track (I4.turned (fun b u hb e => sb.extBut b u hb e) n4.n n4.l (.inr n4.s) n4.c n4.p) ob
  rcases q2 with ⟨q, ex, q2⟩ | ⟨k, b, ex, nb, db, q2⟩
  · subst ex
    have dd : s2.heap.DictOf (mixKind X.prog X.w) s.heap.objs.size [] := ⟨_, #[], 0, hd, ⟨rfl, rfl, rfl⟩, rfl, fun e he => by simp at he, .nil, List.nodup_nil⟩
    refine wpAny_bind (wpAny_bind (wpAny_bind (wpAny_dictSet_pairs (kV_is rk) dd (fun h' dd' hs => wpAny_pure ?_) (Nat.zero_le _))))
    show wpAny _ _ (forIn [] PUnit.unit _) _ _ _
    rw [List.forIn_nil]
    refine wpAny_pure (wpAny_pure (wpAny_pure (wpAny_pure ?_)))
    exact ⟨.ref s.heap.objs.size, _, fin hs (dk_new (by show 1 ≤ sizeLine; decide) hbig (.cons ⟨rfl, rv⟩ .nil) dd'), rfl, q2 _ n4.n⟩
  · subst ex
    cases rk
    have dd : s2.heap.DictOfH (nestedKind X.prog X.w) s.heap.objs.size [] := ⟨_, #[], 0, hd, ⟨rfl, rfl, rfl⟩, rfl, rfl, (fun x hx => by simp at hx), List.nodup_nil⟩
    refine wpAny_bind (wpAny_bind (wpAny_bind (wpAny_dictSet_heap (knd := nestedKind X.prog X.w) (by show X.A.units + 8 < cLine; omega) (show (nestedKind X.prog X.w).is s2.heap k b from ⟨nb.is I4.hok rfl, db⟩) dd (fun h' dd' hs => wpAny_pure ?_) (Nat.zero_le _))))
    show wpAny _ _ (forIn [] PUnit.unit _) _ _ _
    rw [List.forIn_nil]
    refine wpAny_pure (wpAny_pure (wpAny_pure (wpAny_pure ?_)))
    obtain ⟨ep, ob⟩ := dx_new (xs := [(k, b, y)]) (by show 1 ≤ sizeLine; decide) hbig (.cons ⟨rfl, rfl, rv⟩ .nil) dd'
    exact ⟨.ref s.heap.objs.size, _, fin hs (ob _), rfl, q2 _ ep n4.n⟩
end
def gD1 (k v : PyData) : Option PyData := if plainD k = true ∨ (isTupD k && deepD k) = true then some (.dict [(k, v)]) else none
section
variable {X : Cx} {F : Fr} {ke ve : Expr} {fk fv : M PyData} {pos : Pos}
theorem pmf_d1 (hu : X.A.units + 64 < cLine) (hk : PM X F ke fk) (hv : PM X F ve fv)
    (hshape : (evalEachOpt [some ke] X.env).zip ((evalEach [ve] X.env).map fun v => do let x ← v; standAt pos; pure x) = [(some (eval ke X.env), do let x ← eval ve X.env; standAt pos; pure x)] := by rfl) : PMF X F (.Dict [some ke] [ve] pos) (op2 gD1 fk fv) := by
  refine PE.imp (pe_d1 hu hk hv hshape) fun σ H Q ⟨V, ρ, E, g0⟩ => ⟨V, ρ, E, GoalF.bind g0 fun x dx H1 V1 ρ1 st1 r1 g1 => ⟨V1, ρ1, st1.env, GoalF.bind g1 fun y dy H2 V2 ρ2 st2 r2 g2 => ?_⟩⟩
  obtain ⟨z, ez, q⟩ := GoalF.opt st2.env g2
  have s := st2.env.sub
  have r1 := r1.mono st2.v
  obtain ⟨hor, rfl⟩ := ite_some ez
  by_cases hp : plainD dx = true
  · obtain ⟨k, rfl, rfl⟩ := plain_key r1 hp
    exact .inl ⟨k, rfl, fun p hpn => q _ _ _ (Ext.hid s hpn) ⟨p, rfl, s.free hpn, hpn, .inl ⟨[(k, y)], upd_same, .cons r2 .nil, by simp⟩⟩⟩
  · obtain ⟨o1, o2⟩ := Bool.and_eq_true_iff.mp (hor.resolve_left hp)
    obtain ⟨k, b, e1, rfl, nb, db⟩ := tup_key s r1 o1 o2
    exact .inr ⟨k, b, rfl, nb, db, fun p ep hpn => q _ _ _ (Ext.hid s hpn) ⟨p, rfl, s.free hpn, hpn, .inr ⟨[(k, b, y)], ep, upd_same, .cons r1 e1 db r2 .nil⟩⟩⟩
theorem pm_d1 (hu : X.A.units + 64 < cLine) (hk : PM X F ke fk) (hv : PM X F ve fv)
    (hshape : (evalEachOpt [some ke] X.env).zip ((evalEach [ve] X.env).map fun v => do let x ← v; standAt pos; pure x) = [(some (eval ke X.env), do let x ← eval ve X.env; standAt pos; pure x)] := by rfl) : PM X F (.Dict [some ke] [ve] pos) (op2 gD1 fk fv) := (pmf_d1 hu hk hv hshape).pm
end
end DL
set_option Elab.async false
set_option linter.all false
set_option maxRecDepth 100000
set_option maxHeartbeats 4000000
namespace DL
open PySem PySem.Spec PyProof.Rows L2
variable [TabCtx]
def movO (j i : Nat) : SM := fun ρ => match ρ[i]? with
  | some (.ow d) => if j < ρ.length then .nx ((ρ.set i (.sh d)).set j (.sh d)) else .bad
  | _ => .bad
section
variable {K : KW} {F : Fr} {σ : St} {ρ : Rho} {H V : Hp}
theorem EnvR.dropSl (E : EnvR K F H V σ ρ) (i : Nat) : EnvR K F H V σ (ρ.set i .no) := by
  have at_ : ∀ {j : Nat} {t : Sl}, t ≠ .no → (ρ.set i .no)[j]? = some t → ρ[j]? = some t ∧ j ≠ i := fun {j t} ht h => by
    by_cases e : i = j
    · subst e
      by_cases hi : i < ρ.length
      · rw [List.getElem?_set_self hi] at h; cases h; exact absurd rfl ht
      · rw [List.getElem?_eq_none (by simpa using hi)] at h; cases h
    · rw [List.getElem?_set_ne e] at h; exact ⟨h, Ne.symm e⟩
  refine ⟨by rw [List.length_set]; exact E.len, E.ext, fun j d h => E.sh j d (at_ (by simp) h).1, fun j d h => E.ow j d (at_ (by simp) h).1, fun a b c d e h1 h2 => E.dis a b c d e (at_ (by simp) h1).1 (at_ (by simp) h2).1, E.lent, E.tab, E.ob.setR fun _ z => nomatch z⟩
theorem EnvR.letGo (E : EnvR K F H V σ ρ) {i : Nat} {d : PyData} (h : ρ[i]? = some (.ow d)) (hl : i ≠ F.ls ∨ F.lent = none) : ∃ a V', σ[i]? = some (some (.ref a)) ∧ EnvR K F H V' σ (ρ.set i (.sh d)) ∧ Same V V' ∧ Rep K V' (.ref a) d := by
  obtain ⟨a, h1, h2, h3, h4⟩ := E.ow i d h
  obtain ⟨u, hu, hr⟩ := h4.show h2
  have E1 := E.dropSl i
  have hno : ¬ IsOwn σ (ρ.set i .no) a := fun ⟨j, e, q1, q2⟩ => by
    by_cases z : i = j
    · subst z
      by_cases hi : i < ρ.length
      · rw [List.getElem?_set_self hi] at q1; cases q1
      · rw [List.getElem?_eq_none (by simpa using hi)] at q1; cases q1
    · rw [List.getElem?_set_ne z] at q1
      exact z (E.dis i j a d e h q1 h1 q2)
  have E2 := E1.show hu h2 h3 hno
  have E3 := E2.setSh (i := i) hr hl
  have es : σ.set i (some (.ref a)) = σ := by
    apply List.ext_getElem?
    intro j
    by_cases z : i = j
    · subst z
      have hi : i < σ.length := by
        rcases Nat.lt_or_ge i σ.length with q | q
        · exact q
        · rw [List.getElem?_eq_none q] at h1; cases h1
      rw [List.getElem?_set_self hi, h1]
    · rw [List.getElem?_set_ne z]
  rw [es, List.set_set] at E3
  exact ⟨a, _, h1, E3, same_new h2, hr⟩
end
section
variable {X : Cx} {F : Fr} {pos : Pos}
theorem pms_mov (j i : Nat) {x y : Str} {px py : Pos} (hN : X.N.Nodup) (hj : X.N[j]? = some x := by rfl) (hi : X.N[i]? = some y := by rfl) (hv : Vis X.env.scope y := by first | exact Or.inl rfl | exact Or.inr (Or.inl rfl) | exact Or.inr (Or.inr rfl)) (hx : Loc X.env.scope x := by first | exact Or.inl rfl | exact Or.inr rfl) (hl : i ≠ F.ls ∨ F.lent = none := by first | exact Or.inr rfl | exact Or.inl (ne_ls rfl)) (hlj : j ≠ F.ls ∨ F.lent = none := by first | exact Or.inr rfl | exact Or.inl (ne_ls rfl))
    (hd : (y == ("__debug__" : Str)) = false := by decide) (hcd : (y == ("__classdict__" : Str)) = false := by decide) (hs : swapsWith (.Name y py) (some (.Name x px)) pos.line X.env = pure false := by rfl) (hf : X.fn x = true ∨ X.env.scope.names.lookup x = some .local := by first | exact .inl rfl | exact .inr rfl | assumption) :
    PMS X F (.Assign [.Name x px] (.Name y py) pos) (movO j i) := by
  refine PS.imp (ps_set hN hj hx (pe_var (i := i) hi hv hd hcd) hs hf) fun D σ H ⟨V, ρ, E, g⟩ => ?_
  unfold movO at g
  cases h : ρ[i]? with
  | none => rw [h] at g; exact g.elim
  | some s =>
    rw [h] at g
    cases s with
    | no => exact False.elim g
    | ob _ => exact False.elim g
    | sh d => exact False.elim g
    | ow d =>
      have g : GoalS X.kw F V (if j < ρ.length then .nx ((ρ.set i (.sh d)).set j (.sh d)) else .bad) D := g
      by_cases hjl : j < ρ.length
      · rw [if_pos hjl] at g
        obtain ⟨a, V', h1, E1, sv, r⟩ := E.letGo h hl
        exact ⟨.ref a, h1, g _ _ _ (E1.setSh (i := j) r hlj) sv⟩
      · rw [if_neg hjl] at g; exact False.elim g
/-- a statement that finds the slot i's own thing let go of -/
def letO (i : Nat) (f : SM) : SM := fun ρ => match ρ[i]? with
  | some (.ow d) => f (ρ.set i (.sh d))
  | _ => f ρ
theorem pms_let (i : Nat) {st : Stmt} {f : SM} (h : PMS X F st f) (hl : i ≠ F.ls ∨ F.lent = none := by first | exact Or.inr rfl | exact Or.inl (ne_ls rfl)) : PMS X F st (letO i f) := by
  refine PS.imp h fun D σ H ⟨V, ρ, E, g⟩ => ?_
  unfold letO at g
  cases hr : ρ[i]? with
  | none => rw [hr] at g; exact ⟨V, ρ, E, g⟩
  | some s =>
    rw [hr] at g
    cases s with
    | no => exact ⟨V, ρ, E, g⟩
    | ob _ => exact ⟨V, ρ, E, g⟩
    | sh d => exact ⟨V, ρ, E, g⟩
    | ow d =>
      obtain ⟨a, V', h1, E1, sv, r⟩ := E.letGo hr hl
      exact ⟨V', _, E1, GoalS.mono sv g⟩
end
end DL
set_option Elab.async false
set_option linter.all false
set_option maxRecDepth 100000
set_option maxHeartbeats 4000000
namespace DL
open PySem PySem.Spec PyProof.Rows L2
end DL
set_option Elab.async false
set_option linter.all false
set_option maxRecDepth 100000
set_option maxHeartbeats 4000000
namespace DL
open PySem PySem.Spec PyProof.Rows L2
end DL
set_option Elab.async false
set_option linter.all false
set_option maxRecDepth 100000
set_option maxHeartbeats 4000000
namespace DL
open PySem PySem.Spec PyProof.Rows L2
end DL
set_option Elab.async false
set_option linter.all false
set_option maxRecDepth 100000
set_option maxHeartbeats 4000000
namespace DL
open PySem PySem.Spec PyProof.Rows L2
end DL
set_option Elab.async false
set_option linter.all false
set_option maxRecDepth 100000
set_option maxHeartbeats 4000000
namespace DL
open PySem PySem.Spec PyProof.Rows L2
variable [TabCtx]
/-- what holds of a comprehension's new dict at D -/
structure DI (K : KW) (F : Fr) (vs : List Nat) (σ : St) (ρ1 : Rho) (H1 V1 : Hp) (D : Addr) (σ' : St) (ρ' : Rho) (H' V' : Hp) (ys : List (NestedKey × Addr × L2.V)) (ep : Nat) (acc : List (PyData × PyData)) : Prop where
  env : EnvR K F H' V' σ' ρ'
  sv : Same V1 V'
  hD : H' D = some (dX K.w D ys ep)
  rl : RepT K V' ys acc
  vD : V' D = none
  ho : ∀ b, IsOwn σ' ρ' b → IsOwn σ ρ1 b
  kp : ∀ b o, H1 b = some o → nT o → ¬ IsOwn σ ρ1 b → H' b = some o
  sh : ∀ (j : Nat) (d : PyData), j ∉ vs → ρ'[j]? = some (.sh d) → ρ1[j]? = some (.sh d)
  fr : ∀ b, V1 b = none → H1 b ≠ none → V' b = none
  th : ∀ b, H1 b ≠ none → H' b ≠ none
  nD : ¬ IsOwn σ ρ1 D
  h0 : F.H0 D = none
  h1 : H1 D = none
section
variable {K : KW} {F : Fr} {vs : List Nat} {σ : St} {ρ1 : Rho} {H1 V1 : Hp} {D : Addr} {σ' σ2 : St} {ρ' ρ2 : Rho} {H' V' H2 V2 : Hp} {ys : List (NestedKey × Addr × L2.V)} {ep : Nat} {acc : List (PyData × PyData)}
theorem DI.start (E : EnvR K F H1 V1 σ ρ1) (hD : H1 D = none) (ep : Nat) : DI K F vs σ ρ1 H1 V1 D σ ρ1 (upd H1 D (dX K.w D [] ep)) V1 [] ep [] := by
  have L := LI.start (vs := vs) E hD
  exact ⟨E.grow (Ext.hid E.sub hD), L.sv, upd_same, .nil, L.vD, L.ho, fun b o q _ _ => same_new hD b o q, L.sh, L.fr, Same.th (same_new hD), L.nD, L.h0, L.h1⟩
theorem DI.someD (I : DI K F vs σ ρ1 H1 V1 D σ' ρ' H' V' ys ep acc) : H' D ≠ none := by rw [I.hD]; exact fun z => nomatch z
theorem DI.wipe (I : DI K F vs σ ρ1 H1 V1 D σ' ρ' H' V' ys ep acc) (ws : List Nat) (hl : F.ls ∉ ws ∨ F.lent = none) : DI K F vs σ ρ1 H1 V1 D (L2.wipe σ' ws) (wipeR ρ' ws) H' V' ys ep acc :=
  { I with env := I.env.wipe hl, ho := fun b h => I.ho b (isOwn_wipe h), sh := fun j d hj q => I.sh j d hj (wipeR_some (by intro z; cases z) q).1 }
theorem DI.ext (I : DI K F vs σ ρ1 H1 V1 D σ' ρ' H' V' ys ep acc) (x : Ext H' V' H2 V2) : DI K F vs σ ρ1 H1 V1 D σ' ρ' H2 V2 ys ep acc :=
  { I with env := I.env.grow x, sv := I.sv.trans x.v, hD := x.h _ _ I.hD plain_dX.t, rl := I.rl.mono x.v, vD := x.f D I.vD I.someD, kp := fun b o q n m => x.h _ _ (I.kp b o q n m) n, fr := fun b h1 h2 => x.f b (I.fr b h1 h2) (I.th b h2), th := fun b h => x.th b (I.th b h) }
theorem DI.tgt {is : List Nat} (I : DI K F vs σ ρ1 H1 V1 D σ' ρ' H' V' ys ep acc) (E : EnvR K F H2 V2 σ2 ρ2) (x : Ext H' V' H2 V2) (o : ∀ b, IsOwn σ2 ρ2 b → IsOwn σ' ρ' b) (p : ∀ (i : Nat) (d : PyData), i ∉ is → ρ2[i]? = some (.sh d) → ρ'[i]? = some (.sh d)) (his : ∀ i ∈ is, i ∈ vs) :
    DI K F vs σ ρ1 H1 V1 D σ2 ρ2 H2 V2 ys ep acc :=
  { I.ext x with env := E, ho := fun b h => I.ho b (o b h), sh := fun j d hj q => I.sh j d hj (p j d (fun z => hj (his j z)) q) }
theorem DI.stp (I : DI K F vs σ ρ1 H1 V1 D σ' ρ' H' V' ys ep acc) (s : Stp K F σ' ρ' ρ2 H' V' H2 V2) : DI K F vs σ ρ1 H1 V1 D σ' ρ2 H2 V2 ys ep acc where
  env := s.env
  sv := I.sv.trans s.v
  hD := s.keep _ _ I.hD plain_dX.t fun h => I.nD (I.ho D h)
  rl := I.rl.mono s.v
  vD := s.f D I.vD I.someD
  ho := fun b h => I.ho b (s.own b h)
  kp := fun b o q n m => s.keep b o (I.kp b o q n m) n fun h => m (I.ho b h)
  sh := fun j d hj q => I.sh j d hj (s.shs j d q)
  fr := fun b h1 h2 => s.f b (I.fr b h1 h2) (I.th b h2)
  th := fun b h => s.th b (I.th b h)
  nD := I.nD
  h0 := I.h0
  h1 := I.h1
/-- the dict is done -/
theorem DI.done (E : EnvR K F H1 V1 σ ρ1) (I : DI K F vs σ ρ1 H1 V1 D (L2.wipe σ vs) (wipeR ρ' vs) H' V' ys ep acc) (hv : ∀ i ∈ vs, isOw ρ1[i]? = false) :
    Stp K F σ ρ1 (resR ρ1 ρ' vs) H1 V1 H' (upd V' D (dX K.w D ys ep)) ∧ Rep K (upd V' D (dX K.w D ys ep)) (.ref D) (.dict acc) := by
  have nD : ¬ IsOwn (L2.wipe σ vs) (wipeR ρ' vs) D := fun h => I.nD (I.ho D h)
  have Es : EnvR K F H' (upd V' D (dX K.w D ys ep)) (L2.wipe σ vs) (wipeR ρ' vs) := I.env.show I.hD I.vD I.h0 nD
  have svD : Same V' (upd V' D (dX K.w D ys ep)) := same_new I.vD
  refine ⟨⟨E.restore Es (I.sv.trans svD) hv, I.sv.trans svD, I.kp, fun b h => ?_, fun j d q => ?_, fun b h1 h2 => ?_, I.th⟩, .dt upd_same (I.rl.mono svD)⟩
  · obtain ⟨j, d, h1, h2⟩ := h
    have nj := resR_ow hv h1
    rw [resR_out nj] at h1
    exact I.ho b ⟨j, d, by rw [wipeR_out nj]; exact h1, by rw [wipe_outL nj]; exact h2⟩
  · by_cases hj : j ∈ vs
    · by_cases hl : j < ρ'.length
      · rw [resR_in hj hl] at q
        have h' : ρ1.getD j .no = .sh d := Option.some.inj q
        rw [List.getD_eq_getElem?_getD] at h'
        cases q' : ρ1[j]? with
        | none => rw [q'] at h'; cases h'
        | some s =>
          rw [q'] at h'
          have h' : s = .sh d := h'
          rw [h']
      · rw [List.getElem?_eq_none (by rw [resR_len]; omega)] at q; cases q
    · rw [resR_out hj] at q
      exact I.sh j d hj (by rw [wipeR_out hj]; exact q)
  · rw [upd_ne (fun z => h2 (by rw [z]; exact I.h1))]
    exact I.fr b h1 h2
end
end DL
set_option Elab.async false
set_option linter.all false
set_option maxRecDepth 100000
set_option maxHeartbeats 4000000
namespace DL
open PySem PySem.Spec PyProof.Rows L2
variable [TabCtx]
/-- the block's context, exceptions of calls let out -/
abbrev blkX (X : Cx) (W : Value → Hp → Prop) (s : Shared) (H : Hp) (scope : Scope) (env : Env) (fp : List Addr) : Cx :=
  { X.blk s H scope env fp with xe := fun u s' => ∃ (pins : List (Addr × Obj)) (σ : St) (H1 : Hp) (s1 : Shared), L2.Inv (X.blk s H scope env fp) pins σ H1 s1 ∧ L2N.CX X.prog X.w X.stack H1 s1 (fun cls d H' => d = none ∧ W cls H') u s' }
section
variable {X : Cx} {W : Value → Hp → Prop} {s : Shared} {H : Hp} {scope : Scope} {env : Env} {fp : List Addr} {pins : List (Addr × Obj)} {σ : St} {H1 : Hp} {s1 : Shared}
theorem invX (I : L2.Inv (X.blk s H scope env fp) pins σ H1 s1) : L2.Inv (blkX X W s H scope env fp) pins σ H1 s1 :=
  ⟨⟨I.ok.mod, I.ok.kind, I.ok.glob, I.ok.blt, I.ok.above, I.ok.inj, I.ok.has, I.ok.cab, I.ok.hd, I.ok.frames, I.ok.stk, I.ok.exf, I.ok.bs, I.ok.bsz, I.ok.noex, I.ok.exfs, I.ok.funs, I.ok.frf⟩, I.os, I.bare, I.base, I.loc, I.cell, I.free, I.freeC, I.pin, I.hok, I.len⟩
theorem invB (I : L2.Inv (blkX X W s H scope env fp) pins σ H1 s1) : L2.Inv (X.blk s H scope env fp) pins σ H1 s1 :=
  ⟨⟨I.ok.mod, I.ok.kind, I.ok.glob, I.ok.blt, I.ok.above, I.ok.inj, I.ok.has, I.ok.cab, I.ok.hd, I.ok.frames, I.ok.stk, I.ok.exf, I.ok.bs, I.ok.bsz, I.ok.noex, I.ok.exfs, I.ok.funs, I.ok.frf⟩, I.os, I.bare, I.base, I.loc, I.cell, I.free, I.freeC, I.pin, I.hok, I.len⟩
end
/-- an exception that a call let out, noted, the block let go of, on its way -/
theorem comp_fail {X : Cx} {Wf : WX} {W : Value → Hp → Prop} {pins pins1 : List (Addr × Obj)} {σ σ1 : St} {Hb H1 : Hp} {sb s1 s' : Shared} {scope : Scope} {ce : Env} {fp : List Addr} {u : Value}
    (hs : X.stack = X.env :: X.outer) (hf : X.env.frame = some X.env.locals) (tk : L2N.Takes X Wf) (hW : ∀ cls H', W cls H' → Wf cls none σ H')
    (Ib : L2.Inv X pins σ Hb sb) (eC : ce.locals = sb.heap.objs.size) (ef : ce.frame = X.env.frame) (fb : ∀ b ∈ fp, FpOk X pins Hb b ∧ b < sb.heap.objs.size)
    (I1 : L2.Inv (X.blk sb Hb scope ce fp) pins1 σ1 H1 s1) (cx : L2N.CX X.prog X.w X.stack H1 s1 (fun cls d H' => d = none ∧ W cls H') u s') :
    notedBy (model X.prog X.w) X.A ce (CompFails (model X.prog X.w) X.A X.xe ce) u s' := by
  obtain ⟨a, B, H', cls, d, rfl, fl, hok, ub, na, os, ag, rfl, hw⟩ := cx
  have hfr : X.A.frames = some (X.env :: X.outer) := by rw [Ib.ok.frames, hs]
  -- the block's own names
  have free1 : H1 ce.locals = none := I1.free
  obtain ⟨ns, hns, _⟩ := I1.loc
  have hns : s1.heap.Ns ce.locals ns := hns
  have nfr : ce.locals ∉ frs X.stack := fun hm => by
    have z := Ib.stkSub _ hm
    rw [eC] at z
    rcases List.mem_cons.mp z with z | z
    · exact absurd Ib.lt (by rw [← z]; exact Nat.lt_irrefl _)
    · exact Ib.nofs (Nat.le_refl _) z
  obtain ⟨oC, eA, epC, hoC, hdC, rC⟩ := hns
  have bC : B.get? ce.locals = some oC := ub.keep _ _ hoC free1 nfr
  have sC : s'.heap.get? ce.locals = some oC := fl.1 _ _ bC
  have hnsC : s'.heap.Ns ce.locals ns := ⟨oC, eA, epC, sC, hdC, rC⟩
  -- the ground without them
  have b0 : ∀ b o, (PySem.W.hideAll B [ce.locals]).get? b = some o → B.get? b = some o := fun b o e => PySem.W.of_hideAll _ e
  have b1 : ∀ b o, B.get? b = some o → b ≠ ce.locals → (PySem.W.hideAll B [ce.locals]).get? b = some o := fun b o e n => PySem.W.hideAll_get _ e (by simpa using n)
  have bN : (PySem.W.hideAll B [ce.locals]).get? ce.locals = none := PySem.W.hideAll_none _ (by simp)
  have bno : ∀ b, B.get? b = none → (PySem.W.hideAll B [ce.locals]).get? b = none := fun b e => by
    cases q : (PySem.W.hideAll B [ce.locals]).get? b with
    | none => rfl
    | some o => rw [b0 b o q] at e; cases e
  have freeC : H' ce.locals = none := ub.free _ _ hoC free1
  generalize PySem.W.hideAll B [ce.locals] = B0 at *
  obtain ⟨l1, l2, l3, oe, vs, T, oT, ts, he, hz, hd, h1, hnT, hTe, hT, hdT, h3⟩ := fl
  have frB : ∀ L ∈ frs X.stack, B0.get? L = none := fun L hL => by
    obtain ⟨q, _⟩ := l3.mem hL
    exact bno L q
  have fl0 : HandSPX.FlyingZ B0 (X.env :: X.outer) a (L2N.Zn cls none) s'.heap := by
    rw [← hs]
    exact ⟨fun b o e => l1 b o (b0 b o e), bno a l2, funFrames_none l3 frB, oe, vs, T, oT, ts, he, hz, hd, h1, bno T hnT, hTe, hT, hdT, h3⟩
  show wpAny _ _ (noteFrame (.ref a) ce) _ _ _
  rw [noteFrame_env _ ef]
  refine PXN.looks_onZ L2N.Zn.steady hfr hf fl0 fun h2 held up2 => ?_
  have hns2 : h2.Ns ce.locals ns := hnsC.upToSlots fun b o e n => up2 b o e n
  refine ⟨ns, hns2, fun h3' ns3 hn3 sb3 => ?_⟩
  obtain ⟨k1, k2, k3, oe2, vs2, T2, oT2, ts2, qe, qz, qd, q1, qn, qT, qt, qdt, q3⟩ := held
  obtain ⟨oC2, eC2, epC2, hoC2, hdC2, _⟩ := hns2
  have ne : ∀ {b : Addr} {o : Obj} {vs : Array Value}, h2.get? b = some o → o.data = .fields vs → b ≠ ce.locals := fun {b o vs} e1 e2 z => by
    rw [z, hoC2] at e1; cases e1
    rw [hdC2] at e2; cases e2
  have st3 : B0.StaysIn h3' := fun b o e => (sb3.2 b fun z => by rw [z, bN] at e; cases e).trans (k1 b o e)
  have ff3 : h3'.FunFrames B0 (X.env :: X.outer) := Heap.FunFrames.sameBut sb3 hn3 k3
  have he3 : h3'.get? a = some oe2 := (sb3.2 a (ne qe qd)).trans qe
  have hT3 : h3'.get? T2 = some oT2 := (sb3.2 T2 (ne qt qdt)).trans qt
  have held3 : HandSPX.HeldZ B0 (X.env :: X.outer) a (L2N.Zn cls none) X.env.locals h3' := ⟨st3, k2, ff3, oe2, vs2, T2, oT2, ts2, he3, qz, qd, q1, qn, qT, hT3, qdt, q3⟩
  unfold PySem.passOn
  refine wpAny_bind (wpAny_field he3 qd q1 ?_)
  rw [if_neg (show ¬ ((Value.ref T2 == Value.none) = true) by simp), ef, hf]
  refine wpAny_bind (HandSPX.setFlight_onZ held3 fun h4 held4 up4 => wpAny_throw ?_)
  -- the state without the exception
  obtain ⟨G, g1, g2⟩ := restrict s'.heap fun b => (B0.get? b).isSome || decide (b ∈ frs X.stack)
  have gB : ∀ b o, B0.get? b = some o → G.get? b = some o := fun b o e => by
    rw [g1 b (by simp [e])]
    exact l1 b o (b0 b o e)
  have gF : ∀ b, b ∈ frs X.stack → G.get? b = s'.heap.get? b := fun b hb => g1 b (by simp [hb])
  have og : ∀ b o, G.get? b = some o → s'.heap.get? b = some o ∧ ((B0.get? b).isSome = true ∨ b ∈ frs X.stack) := fun b o e => by
    cases q : ((B0.get? b).isSome || decide (b ∈ frs X.stack)) with
    | false => rw [g2 b q] at e; cases e
    | true =>
      rw [g1 b q] at e
      exact ⟨e, by simpa [Bool.or_eq_true] using q⟩
  have gC : G.get? ce.locals = none := g2 _ (by simp [bN, nfr])
  have old : ∀ b o, sb.heap.get? b = some o → b ≠ ce.locals := fun b o e z => by
    have := Heap.lt_size e
    rw [z, eC] at this
    exact Nat.lt_irrefl _ this
  have u1 := I1.base
  have un : Un (frs X.stack) fp Hb H' sb.heap G := by
    refine ⟨fun b o e n hb hx => ?_, fun b o e n hb hx => ?_, fun b o e n hx => ?_, fun b o e hx => ?_, fun b xs e => ub.tups _ _ (u1.tups _ _ e), fun b o v e => ub.frzs _ _ _ (u1.frzs _ _ _ e), fun b ps e => ?_⟩
    · exact gB b o (b1 b o (ub.keep b o (u1.keep b o e n hb hx) (u1.free b o e n hx) hb) (old b o e))
    · obtain ⟨sl, e1⟩ := u1.slot b o e n hb hx
      obtain ⟨sl2, e2⟩ := ub.slot b _ e1 hb
      exact ⟨sl2, by rw [gF b hb]; exact e2⟩
    · obtain ⟨sl, e1⟩ := u1.any e n hx
      exact ub.free b _ e1 (u1.free b o e n hx)
    · obtain ⟨o1, e1⟩ := u1.there b o e hx
      by_cases hb : b ∈ frs X.stack
      · obtain ⟨sl, e2⟩ := ub.slot b o1 e1 hb
        exact ⟨_, by rw [gF b hb]; exact e2⟩
      · obtain ⟨o2, e2⟩ := ub.there b o1 e1 hb
        exact ⟨o2, gB b o2 (b1 b o2 e2 (old b o e))⟩
    · obtain ⟨m1, e1⟩ := u1.tbls b ps e
      obtain ⟨m2, e2⟩ := ub.tbls b _ e1
      exact ⟨m1 ++ m2, by rw [e2, Array.append_assoc]⟩
  have hokG : HOk X.prog X.w H' G := fun b o q => (hok b o q).stay (fun c v hc r => gB c v (b1 c v r fun z => by
    rcases hc with hc | hc
    · rw [← hc, z, freeC] at q; cases q
    · rw [z, freeC] at hc; cases hc)) (fun _ r => r) fun _ _ r => r
  have Ix : L2.Inv X pins σ H' { s1 with heap := G, gens := s'.gens, drawn := s'.drawn, toks := s'.toks } := Ib.call' (ch := fp) I1.os un hokG ag fun b hb => by
    obtain ⟨⟨_, y1, _, y3, y4, y5⟩, _⟩ := fb b hb
    exact ⟨y3, y1, y4, y5⟩
  refine tk _ _ ⟨a, B0, _, pins, σ, H', cls, none, rfl, Ix, fun b o e hb => ?_, fun b o e n => ?_, ?_, na, os, ag, hW _ _ hw⟩
  · obtain ⟨e', hh⟩ := og b o e
    rcases hh with hh | hh
    · obtain ⟨o', q⟩ := Option.isSome_iff_exists.mp hh
      have z := l1 b o' (b0 b o' q)
      rw [e'] at z; cases z
      exact q
    · exact absurd hh hb
  · have nC : b ≠ ce.locals := fun z => by rw [z, gC] at e; cases e
    obtain ⟨sl, e1⟩ := up2 b o (og b o e).1 n
    obtain ⟨sl2, e2⟩ := up4 b _ ((sb3.2 b nC).trans e1) n
    exact ⟨sl2, e2⟩
  · rw [hs]; exact .inr (.inr held4)
end DL
set_option Elab.async false
set_option linter.all false
set_option maxRecDepth 100000
set_option maxHeartbeats 4000000
namespace DL
open PySem PySem.Spec PyProof.Rows L2
variable [TabCtx]
abbrev BlkX (X : Cx) (W : Value → Hp → Prop) (scope : Scope) (P : Cx → Prop) : Prop := ∀ (s : Shared) (H : Hp) (C : Addr) (cl : List (Str × Addr)) (fp : List Addr), P (blkX X W s H scope (compEnvC scope cl C X.env) fp)
section
variable {X : Cx}
theorem lcX_core {Wf : WX} {Wb : Value → Hp → Prop} {pins : List (Addr × Obj)} {s0 : Shared} {σ : St} {H : Hp} {Q : VK} {elt tg iter : Expr} {ifs : List Expr} {scope : Scope} {own : List (Str × Nat)} {pos pos2 : Pos} {wi : TI} {g : TG} {tt : TT} {te : TE} {Qf : Value → Shared → Prop}
    (hs : X.stack = X.env :: X.outer) (hf : X.env.frame = some X.env.locals) (tk : L2N.Takes X Wf) (hW : ∀ c H', Wb c H' → Wf c none σ H') (calm : X.calm = true) (nd : X.N.Nodup) (I0 : L2.Inv X pins σ H s0)
    (hi : PI X tg iter wi) (bo : BlkOk X.N X.env.scope scope own) (hg : BlkX X Wb scope fun Y => PG Y tg g) (ht : BlkX X Wb scope fun Y => PTs Y ifs tt) (he : BlkX X Wb scope fun Y => PE Y elt te) (fs : ∀ x, foldedSetIterable iter X.env x = pure x)
    (h : tLc wi g tt te (own.map (·.2)) σ H Q)
    (away : ∀ D C u ns Hn, L2.Inv X pins σ Hn u → Q (.ref D) Hn → u.heap.Ns C ns → FpOk X pins Hn C → ∃ m, u.heap.Ns C m ∧ ∀ h', Heap.SameBut C u.heap h' → Qf (.ref D) { u with heap := h' }) :
    wpAny (model X.prog X.w) X.A (comprehension (.ListComp elt [⟨tg, iter, ifs, 0⟩] scope pos) scope X.env pos2 (newList []) false (eval iter X.env) none) Qf X.xe s0 := by
  have cells : ∀ y ∈ scope.names, y.2 = .free → ∃ c, X.env.cells.lookup y.1 = some c := fun y hy e => (bo.free y hy e).elim (fun k => I0.ok.has _ (.inl k)) fun k => I0.ok.has _ (.inr k)
  refine comprehension_at rfl fs (closure_ok cells) bo.kind (fun y hy e => by rw [bo.uniq y hy, e]) (thn (hi.run pins s0 σ H _ I0 h) fun _ _ hx => thn hx fun _ sa ha => ?_)
  obtain ⟨it, fp, tn, J, Ha, rfl, Ia, T, sta, fa, q⟩ := ha
  refine wpAny_newObj_type (newEnv_comp ?_)
  have fresh : Ha sa.heap.objs.size = none := Ia.hok.fresh (Nat.le_refl _)
  obtain ⟨W, ⟨m0, w0⟩, turn⟩ := q sa.heap.objs.size fresh
  have ob : ∀ H' : Hp, ObjOk X.prog X.w H' (sa.heap.push { cls := .type "list", data := .seq ([] : List Value).toArray }) sa.heap.objs.size (.lst []) := fun H' => ⟨Nat.zero_le _, [], _, .nil, Heap.get?_push_size _ rfl⟩
  have Ib : L2.Inv X pins σ (upd Ha sa.heap.objs.size (.lst [])) { sa with heap := sa.heap.push { cls := .type "list", data := .seq ([] : List Value).toArray } } :=
    Ia.laid (a := sa.heap.objs.size) (o := .lst []) (t' := sa.toks) (fun _ _ z => Heap.get?_push_of_some _ z) (Nat.le_refl _) (ob _)
  have below : ∀ b ∈ fp, b < sa.heap.objs.size := fun b hb => by
    obtain ⟨o, e, _⟩ := T.obj _ _ sta b hb
    exact Heap.lt_size e
  have fb : ∀ b ∈ fp, FpOk X pins (upd Ha sa.heap.objs.size (.lst [])) b ∧ b < (sa.heap.push { cls := .type "list", data := .seq ([] : List Value).toArray }).objs.size := fun b hb =>
    ⟨⟨by rw [upd_ne (Nat.ne_of_lt (below b hb))]; exact (fa b hb).1, (fa b hb).2⟩, by rw [Heap.size_push]; exact Nat.lt_succ_of_lt (below b hb)⟩
  have stb : tn 0 (sa.heap.push { cls := .type "list", data := .seq ([] : List Value).toArray }) := T.keep _ _ _ sta fun b _ o e => Heap.get?_push_of_some _ e
  generalize hDD : sa.heap.objs.size = D at *
  generalize hsb : ({ sa with heap := sa.heap.push { cls := .type "list", data := .seq ([] : List Value).toArray } } : Shared) = sb at *
  have ehb : sa.heap.push { cls := .type "list", data := .seq ([] : List Value).toArray } = sb.heap := by rw [← hsb]
  rw [ehb] at fb stb
  generalize hHb : upd Ha D (.lst []) = Hb at *
  have Ic := block_start Ib bo nd fb
  generalize hcl : cellsFrom (sb.heap.objs.size + 1) scope.names (cloFrom X.env.cells scope.names []) = cl at *
  have pg := hg sb Hb sb.heap.objs.size cl fp
  have pt := ht sb Hb sb.heap.objs.size cl fp
  have pe := he sb Hb sb.heap.objs.size cl fp
  have hfp : ∀ b ∈ fp, Hb b = none := fun b hb => (fb b hb).1.1
  have eL : (compEnvC scope cl sb.heap.objs.size X.env).locals = sb.heap.objs.size := rfl
  have eF : (compEnvC scope cl sb.heap.objs.size X.env).frame = X.env.frame := rfl
  show codeAny _ _ (.compStart (.ListComp elt [⟨tg, iter, ifs, 0⟩] scope pos) 0 (.ref it) (.ref D) (compEnvC scope cl sb.heap.objs.size X.env)) (compEnds (model X.prog X.w) X.A X.xe none Qf (.ref D) (compEnvC scope cl sb.heap.objs.size X.env)) _
  generalize hY : compEnvC scope cl sb.heap.objs.size X.env = ce at *
  generalize hsc : ({ heap := pushCells (sb.heap.push { cls := Value.type "dict", data := Data.dict #[] }) scope.names, gens := sb.gens, drawn := sb.drawn, toks := sb.toks, os := sb.os } : Shared) = sc at Ic
  have stc : tn 0 sc.heap := T.keep _ _ _ stb fun b _ o e => by rw [← hsc]; exact pushCells_keeps _ _ _ _ (Heap.get?_push_of_some _ e)
  have fpY : ∀ {τ : St} {Hn : Hp} {t : Shared}, L2.Inv (X.blk sb Hb scope ce fp) [] τ Hn t → (∀ b ∈ fp, Hn b = none) → ∀ b ∈ fp, FpOk (X.blk sb Hb scope ce fp) [] Hn b := by
    intro τ Hn t It hn b hb
    obtain ⟨z1, z2⟩ := It.ok.exf b hb
    exact ⟨hn b hb, z1, It.ok.exfs b hb, .inl hb, fun x c e => z2 x c e, fun p hp => by simp only [List.nil_append] at hp; exact nomatch hp⟩
  -- what an element lets out
  have out : ∀ e s', (blkX X Wb sb Hb scope ce fp).xe e s' → notedBy (model X.prog X.w) X.A ce (fun e s' => compEnds (model X.prog X.w) X.A X.xe none Qf (.ref D) ce (.error e) s') e s' := fun e s' ⟨p1, σ1, H1, s1, I1, cx⟩ =>
    comp_fail hs hf tk hW Ib eL eF fb I1 cx
  refine (fun lp => codeAny_compStart_list lp (T.self X.A 0 _ _ _ ?_ lp)) ?_
  · show tn 0 _
    subst hsc
    exact stc
  refine compLoop_any (fun n t => ∃ i Hn, L2.Inv (X.blk sb Hb scope ce fp) [] (L2.wipe σ (own.map (·.2))) Hn t ∧ tn i t.heap ∧ (∀ b ∈ fp, Hn b = none) ∧ W i n Hn) ?_ m0 ⟨0, Hb, Ic, stc, hfp, w0⟩
  rintro n t ⟨i, Hn, It, stt, nt, wt⟩
  rcases turn i n Hn wt with ⟨stop, last⟩ | ⟨go, Nx, down, step⟩
  · refine thnF (T.done (X.blk sb Hb scope ce fp) rfl rfl rfl calm i [] t _ Hn (fun _ _ => False) It (fpY It nt) stt stop) fun r u ⟨hr, Iu⟩ => ?_
    subst hr
    have back : L2.Inv X pins σ Hn u := Ib.call' (ch := fp) Iu.os Iu.base Iu.hok Iu.bare fun b hb => by
      obtain ⟨⟨_, y1, _, y3, y4, y5⟩, _⟩ := fb b hb
      exact ⟨y3, y1, y4, y5⟩
    have free : Hn sb.heap.objs.size = none := by rw [← eL]; exact Iu.free
    obtain ⟨ns, hns, _⟩ := Iu.loc
    have hns : u.heap.Ns sb.heap.objs.size ns := by rw [← eL]; exact hns
    have aw := away D _ u ns Hn back last hns (Ib.fpOk (Nat.le_refl _) free)
    rw [← eL] at aw
    exact aw
  · refine thnF (T.item (X.blk sb Hb scope ce fp) rfl rfl rfl calm i [] t _ Hn (fun _ _ => False) It (fpY It nt) stt go) fun r t1 ⟨u, hr, k1⟩ => ?_
    subst hr
    refine thnF k1 fun _ t2 ⟨x, H2, I2, r2, y2, st2, n2⟩ => ?_
    refine wpAny_mono (pg.run _ t2 _ H2 x u _ (invX (I2.pinned (fpY I2 n2) (T.obj _ _ st2))) r2 (step x H2 y2)) (fun _ t3 ⟨σ3, H3, I3, ew, k3⟩ => ?_) out
    refine wpAny_mono (pt.run _ t3 σ3 H3 _ I3 k3) (fun b t4 ⟨H4, I4, k4⟩ => ?_) out
    have next : ∀ {t' : Shared} {H' : Hp}, L2.Inv (X.blk sb Hb scope ce fp) ([] ++ pinsAt fp t2.heap) σ3 H' t' → Nx H' → ∃ m, m < n ∧ ∃ i Hn, L2.Inv (X.blk sb Hb scope ce fp) [] (L2.wipe σ (own.map (·.2))) Hn t' ∧ tn i t'.heap ∧ (∀ b ∈ fp, Hn b = none) ∧ W i m Hn := by
      intro t' H' I' nx
      obtain ⟨m', lt, w'⟩ := down H' nx
      have held : ∀ b ∈ fp, ∀ o, t2.heap.get? b = some o → t'.heap.get? b = some o ∧ H' b = none := fun b hb o e => by
        obtain ⟨v1, v2, _⟩ := I'.pin (b, o) (List.mem_append_right _ (List.mem_append_right _ (mem_pinsAt hb e)))
        exact ⟨v1, v2⟩
      refine ⟨m', lt, i + 1, H', (I'.unpinned (pins := [])).weak (by rw [← ew, wipe_length]) (fun j v e => ?_), T.keep _ _ _ st2 fun b hb o e => (held b hb o e).1, fun b hb => ?_, w'⟩
      · rw [← ew] at e
        exact (wipe_some e).1
      · obtain ⟨o, e, _⟩ := T.obj _ _ st2 b hb
        exact (held b hb o e).2
    cases b with
    | false =>
      rw [if_neg Bool.false_ne_true] at k4 ⊢
      exact next (invB I4) k4
    | true =>
      rw [if_pos rfl] at k4 ⊢
      refine wpAny_mono (pe.run _ t4 σ3 H4 _ I4 k4) (fun z t5 ⟨yv, H5, I5, r5, acc, e5, l5, nx⟩ => ?_) out
      exact L2.app_ok (X := X.blk sb Hb scope ce fp) (invB I5) e5 l5 r5 fun t6 I6 => next I6 nx
end
end DL
set_option Elab.async false
set_option linter.all false
set_option maxRecDepth 100000
set_option maxHeartbeats 4000000
namespace DL
open PySem PySem.Spec PyProof.Rows L2
variable [TabCtx]
def Fr.at (F : Fr) (σ : St) : Fr := { F with W := fun c _ H => F.W c σ H }
theorem EnvR.toAt {K : KW} {F : Fr} {τ : St} {H V : Hp} {σ : St} {ρ : Rho} (E : EnvR K F H V σ ρ) : EnvR K (F.at τ) H V σ ρ := ⟨E.len, E.ext, E.sh, E.ow, E.dis, E.lent, E.tab, ⟨E.ob.at_, E.ob.dis⟩⟩
theorem EnvR.unAt {K : KW} {F : Fr} {τ : St} {H V : Hp} {σ : St} {ρ : Rho} (E : EnvR K (F.at τ) H V σ ρ) : EnvR K F H V σ ρ := ⟨E.len, E.ext, E.sh, E.ow, E.dis, E.lent, E.tab, ⟨E.ob.at_, E.ob.dis⟩⟩
theorem Stp.unAt {K : KW} {F : Fr} {τ : St} {σ : St} {ρ ρ' : Rho} {H V H' V' : Hp} (s : Stp K (F.at τ) σ ρ ρ' H V H' V') : Stp K F σ ρ ρ' H V H' V' := ⟨s.env.unAt, s.v, s.keep, s.own, s.shs, s.f, s.th⟩
def lcLoopX (vs : List Nat) (g : GM) (t : M Bool) (e : M PyData) : List PyData → Rho → List PyData → R (List PyData × Rho)
  | [], ρ, acc => .ok (acc, ρ)
  | d :: ds, ρ, acc => match g d (wipeR ρ vs) with
    | .ok ρ1 => (match t ρ1 with
      | .ok (true, ρ2) => (match e ρ2 with
        | .ok (y, ρ3) => if acc.length < LIM then lcLoopX vs g t e ds ρ3 (acc ++ [y]) else .bad
        | .exc c => .exc c
        | .bad => .bad)
      | .ok (false, ρ2) => lcLoopX vs g t e ds ρ2 acc
      | _ => .bad)
    | _ => .bad
def lcMX (vs : List Nat) (a : M (List PyData)) (g : GM) (t : M Bool) (e : M PyData) : M PyData := M.bind a fun ds ρ => if vs.any (fun i => isOw ρ[i]?) = true then .bad else (match lcLoopX vs g t e ds ρ [] with
  | .ok (acc, ρ') => .ok (.list acc, resR ρ ρ' vs)
  | .exc c => .exc c
  | .bad => .bad)
/-- what is wanted of a comprehension's rest -/
def CG (K : KW) (F : Fr) (vs : List Nat) (σ : St) (ρ1 : Rho) (H1 V1 : Hp) (Q : VK) : R (List PyData × Rho) → Prop
  | .ok (acc, ρ') => ∀ b H' V', Stp K F σ ρ1 (resR ρ1 ρ' vs) H1 V1 H' V' → Rep K V' b (.list acc) → Q b H'
  | .exc c => ∀ H' V', Ext F.H0 F.V0 H' V' → F.W (.ref (He.ga K c)) σ H'
  | .bad => False
section
variable {X : Cx} {F : Fr}
theorem lcX_run {vs : List Nat} {l : R (List PyData × Rho)} {K : KW} {σ : St} {ρ1 : Rho} {H1 V1 : Hp} {Q : VK} (g1 : Goal K F σ ρ1 H1 V1 (Rep K) (if (vs.any fun i => isOw ρ1[i]?) = true then .bad else (match l with
      | .ok (acc, ρ') => .ok (.list acc, resR ρ1 ρ' vs)
      | .exc c => .exc c
      | .bad => .bad)) Q) : (∀ i ∈ vs, isOw ρ1[i]? = false) ∧ CG K F vs σ ρ1 H1 V1 Q l := by
  by_cases hany : (vs.any fun i => isOw ρ1[i]?) = true
  · rw [if_pos hany] at g1
    exact False.elim g1
  · rw [if_neg hany] at g1
    refine ⟨fun i hi => ?_, ?_⟩
    · cases q : isOw ρ1[i]? with
      | false => rfl
      | true => exact absurd (List.any_eq_true.mpr ⟨i, hi, q⟩) hany
    · cases l with
      | exc c => exact g1
      | bad => exact False.elim g1
      | ok pr => exact g1
theorem lcX_of {K : KW} {vs is : List Nat} {fi : M (List PyData)} {g : GM} {ft : M Bool} {fe : M PyData} (his : ∀ i ∈ is, i ∈ vs) (hl : F.ls ∉ vs ∨ F.lent = none) {σ : St} {H : Hp} {Q : VK} (h : tM K F (lcMX vs fi g ft fe) σ H Q) :
    tLc (tI K F fi) (tGM K (F.at σ) is g) (tMT K (F.at σ) ft) (tM K (F.at σ) fe) vs σ H Q := by
  obtain ⟨V, ρ, E, g0⟩ := h
  refine ⟨V, ρ, E, Goal.bind g0 fun J ds H1 V1 ρ1 st1 it g1 => fun D hD => ?_⟩
  obtain ⟨hv, hL⟩ := lcX_run g1
  refine ⟨fun i m H' => m = ds.length - i ∧ i ≤ ds.length ∧ ∃ V' ρc ys accd, LI K F vs σ ρ1 H1 V1 D (L2.wipe σ vs) (wipeR ρc vs) H' V' ys accd ∧ CG K F vs σ ρ1 H1 V1 Q (lcLoopX vs g ft fe (ds.drop i) ρc accd),
    ⟨ds.length, rfl, Nat.zero_le _, V1, ρ1, [], [], (LI.start st1.env hD).wipe vs hl, hL⟩, ?_⟩
  rintro i m H' ⟨rfl, hle, V', ρc, ys, accd, I, hE⟩
  obtain ⟨i1, i2⟩ := it i H' V' I.sv I.env.sub
  by_cases hlt : i < ds.length
  · obtain ⟨go, yl⟩ := i1 _ (List.getElem?_eq_getElem hlt)
    rw [List.drop_eq_getElem_cons hlt] at hE
    refine .inr ⟨go, fun H2 => ∃ V' ρc ys accd, LI K F vs σ ρ1 H1 V1 D (L2.wipe σ vs) (wipeR ρc vs) H2 V' ys accd ∧ CG K F vs σ ρ1 H1 V1 Q (lcLoopX vs g ft fe (ds.drop (i + 1)) ρc accd), fun H2 h => ⟨ds.length - (i + 1), by omega, rfl, hlt, h⟩, fun x H2 y => ?_⟩
    obtain ⟨V2, x2, r2⟩ := yl x H2 y
    have I2 := I.ext x2
    refine ⟨V2, wipeR ρc vs, ds[i], I2.env.toAt, r2, ?_⟩
    unfold lcLoopX at hE
    cases eg : g ds[i] (wipeR ρc vs) with
    | exc c => rw [eg] at hE; exact False.elim hE
    | bad => rw [eg] at hE; exact False.elim hE
    | ok ρ3 =>
      rw [eg] at hE
      intro σ3 H3 V3 E3 x3 w3 o3 p3
      have ew : L2.wipe σ3 vs = L2.wipe σ vs := (w3 vs his).trans (wipe_wipe σ vs)
      have I3 := I2.tgt E3.unAt x3 o3 p3 his
      refine ⟨ew, V3, ρ3, E3, ?_⟩
      have hE : CG K F vs σ ρ1 H1 V1 Q (match ft ρ3 with
        | .ok (true, ρ2) => (match fe ρ2 with
          | .ok (y, ρ3) => if accd.length < LIM then lcLoopX vs g ft fe (ds.drop (i + 1)) ρ3 (accd ++ [y]) else .bad
          | .exc c => .exc c
          | .bad => .bad)
        | .ok (false, ρ2) => lcLoopX vs g ft fe (ds.drop (i + 1)) ρ2 accd
        | _ => .bad) := hE
      show Goal K (F.at σ) σ3 ρ3 H3 V3 (fun _ (b : Bool) a => b = a) (ft ρ3) _
      cases et : ft ρ3 with
      | exc c => rw [et] at hE; exact False.elim hE
      | bad => rw [et] at hE; exact False.elim hE
      | ok pt =>
        obtain ⟨bt, ρ4⟩ := pt
        rw [et] at hE
        intro b' H4 V4 st4 eb
        subst eb
        have I4 := I3.stp st4.unAt
        cases b' with
        | false =>
          show if false = true then _ else _
          rw [if_neg Bool.false_ne_true]
          have I5 := I4.wipe vs hl
          rw [ew] at I5
          exact ⟨V4, ρ4, ys, accd, I5, hE⟩
        | true =>
          rw [if_pos rfl]
          refine ⟨V4, ρ4, st4.env, ?_⟩
          have hE : CG K F vs σ ρ1 H1 V1 Q (match fe ρ4 with
            | .ok (y, ρ3) => if accd.length < LIM then lcLoopX vs g ft fe (ds.drop (i + 1)) ρ3 (accd ++ [y]) else .bad
            | .exc c => .exc c
            | .bad => .bad) := hE
          cases ee : fe ρ4 with
          | exc c => rw [ee] at hE; exact fun H' V' x => hE H' V' x
          | bad => rw [ee] at hE; exact False.elim hE
          | ok pe =>
            obtain ⟨yd, ρ5⟩ := pe
            rw [ee] at hE
            have hE : CG K F vs σ ρ1 H1 V1 Q (if accd.length < LIM then lcLoopX vs g ft fe (ds.drop (i + 1)) ρ5 (accd ++ [yd]) else .bad) := hE
            intro yv H5 V5 st5 ry
            by_cases hlm : accd.length < LIM
            · rw [if_pos hlm] at hE
              have I5 := I4.stp st5.unAt
              have I6 := (I5.app ry).wipe vs hl
              rw [ew] at I6
              exact ⟨ys, I5.hD, by rw [I5.rl.length]; exact Nat.lt_trans hlm lim_lt, V5, ρ5, _, _, I6, hE⟩
            · rw [if_neg hlm] at hE; exact False.elim hE
  · have ei : i = ds.length := by omega
    subst ei
    rw [List.drop_length] at hE
    obtain ⟨s1, s2⟩ := LI.done st1.env I hv
    exact .inl ⟨i2 rfl, hE _ _ _ s1 s2⟩
theorem pm_lcX {elt tg iter : Expr} {ifs : List Expr} {scope : Scope} {pos : Pos} {fi : M (List PyData)} {is : List Nat} {g : GM} {ft : M Bool} {fe : M PyData} (own : List (Str × Nat)) (tk : Tk X F) (hi : PMI X F tg iter fi) (ok : BlkOk X.N X.env.scope scope own) (hN : X.N.Nodup)
    (hg : ∀ σ, BlkX X (fun c H' => F.W c σ H') scope fun Y => PMG Y (F.at σ) tg is g) (ht : ∀ σ, BlkX X (fun c H' => F.W c σ H') scope fun Y => PMTs Y (F.at σ) ifs ft) (he : ∀ σ, BlkX X (fun c H' => F.W c σ H') scope fun Y => PM Y (F.at σ) elt fe)
    (his : ∀ i ∈ is, i ∈ own.map (·.2) := by decide) (hl : F.ls ∉ own.map (·.2) ∨ F.lent = none := by first | exact Or.inr rfl | exact Or.inl (nm_ls rfl)) (hst : X.stack = X.env :: X.outer := by rfl) (hf : X.env.frame = some X.env.locals := by rfl) (hc : X.calm = true := by rfl) (hs : ∀ x, foldedSetIterable iter X.env x = pure x := by intro _; rfl) :
    PM X F (.ListComp elt [⟨tg, iter, ifs, 0⟩] scope pos) (lcMX (own.map (·.2)) fi g ft fe) := by
  refine ⟨fun pins s σ H Q I h => ?_⟩
  rw [eval_ListComp]
  have t1 : L2N.Takes X (fun cls d σ H => d = none ∧ F.W cls σ H) := tk
  refine lcX_core (Wf := fun cls d σ H => d = none ∧ F.W cls σ H) (Wb := fun c H' => F.W c σ H') (g := tGM X.kw (F.at σ) is g) (tt := tMT X.kw (F.at σ) ft) (te := tM X.kw (F.at σ) fe) hst hf t1 (fun _ _ z => ⟨rfl, z⟩) hc hN I hi ok (hg σ) (ht σ) (he σ) hs (lcX_of his hl h) fun D C s' m H' I' q hn f => ⟨m, hn, fun h'' sb => ?_⟩
  obtain ⟨f0, f1, f2, f3, f4, f5⟩ := f
  exact ⟨.ref D, H', I'.turned (t' := s'.toks) (fun b o hb e => (sb.2 b hb).trans e) f0 f1 f3 f4 f5, rfl, q⟩
/-- what a callee lets out is taken -/
def PassP (X : Cx) (F : Fr) : Prop := ∀ σ : St, PassesAt (L2N.CX X.prog X.w) X σ (fun c d H' => d = none ∧ F.W c σ H')
theorem passP_blk {σ : St} {s : Shared} {H : Hp} {scope : Scope} {env : Env} {fp : List Addr} : PassP (blkX X (fun c H' => F.W c σ H') s H scope env fp) (F.at σ) := fun σ' pins H1 s1 e s' I c => ⟨pins, σ', H1, s1, invB I, c⟩
/-- f(..) in such a block -/
theorem pm_callP {e : Expr} {es : List Expr} {fs : M (List PyData)} {pos p : Pos} {lvl : Nat} {x : Str} {ps : List Str} {m : List PyData → R PyData} (G : FnD X.prog X.w X.K X.mg X.base lvl x ps m) (hr : Room lvl X.A) (pa : PassP X F) (ha : PMA X F (e :: es) fs) (hg : Gl X x := by rfl)
    (hdb : (x == ("__debug__" : Str)) = false := by decide) (he : starEach (e :: es) X.env = (false, eval e X.env) :: starEach es X.env := by rfl) (hpl : (backTo pos (starEach es X.env)).any (·.1) = false := by rfl) : PM X F (.Call (.Name x p) (e :: es) [] pos) (callM m fs) := by
  obtain ⟨fd, G1, G2, G3, G4, G5⟩ := G
  refine PE.imp (pe_callS (E := fun σ c d H' => d = none ∧ F.W c σ H') G1 hr hg G4 G3 G2 pa ha hdb he hpl) fun σ H Q ⟨V, ρ, E, g0⟩ => ⟨V, ρ, E, Goal.bind g0 fun vs ds H1 V1 ρ1 st1 r1 g1 => ?_⟩
  unfold M.lift at g1
  cases em : m ds with
  | ok d =>
    rw [em] at g1
    refine ⟨by rw [r1.length]; exact G5 ds (by rw [em]; exact fun z => nomatch z), V1, ds, st1.env.tabs, st1.env.sub, r1, ?_⟩
    rw [em]
    exact fun v H' V' x r => g1 v H' V' (st1.env.step x) r
  | exc c =>
    rw [em] at g1
    refine ⟨by rw [r1.length]; exact G5 ds (by rw [em]; exact fun z => nomatch z), V1, ds, st1.env.tabs, st1.env.sub, r1, ?_⟩
    rw [em]
    exact fun H' V' x => ⟨rfl, g1 H' V' (st1.env.ext.trans x)⟩
  | bad => rw [em] at g1; exact False.elim g1
end
end DL
set_option Elab.async false
set_option linter.all false
set_option maxRecDepth 100000
set_option maxHeartbeats 4000000
namespace DL
open PySem PySem.Spec PyProof.Rows L2
variable [TabCtx]
abbrev mkS (l : List Nat) : Str := ⟨l.toArray⟩
theorem mkS_tl (x : Str) : mkS (TL.tl x) = x := TL.mk_tl x
/-- a text's method: the receiver is a text -/
def opS (g : Str → PyData → Option PyData) (fa fb : M PyData) : M PyData := M.bind fa fun x => match x with
  | .str a => M.bind fb fun y => M.opt (g a y)
  | _ => fun _ => .bad
def gSplit (a : Str) : PyData → Option PyData
  | .str b => if (b.length == 0) = false ∧ b.cps.all (· < 256) = true ∧ a.length ≤ LIM then some (.list ((TL.spl (TL.tl b) 0 [] (TL.tl a)).map fun l => .str (mkS l))) else none
  | _ => none
theorem split_data {a b : Str} (h1 : (b.length == 0) = false) (h2 : b.cps.all (· < 256) = true) : Txt.split a b = (TL.spl (TL.tl b) 0 [] (TL.tl a)).map mkS := by
  have hy : TL.tl b ≠ [] := fun z => by
    have : b.length = 0 := by rw [TL.len_tl, z]; rfl
    rw [this] at h1; cases h1
  refine TL.map_tl_inj ?_
  rw [TL.split_spl a b hy (TL.kind_ok h2), List.map_map]
  simp [TL.tl_mk, Function.comp_def, mkS]
theorem repL_strs {K : KW} {V : Hp} : ∀ ys : List Str, RepL K V (ys.map L2.V.str) (ys.map PyData.str)
  | [] => .nil
  | y :: ys => .cons (.str y) (repL_strs ys)
/-- a list of texts -/
def strsD : List PyData → Option (List Str)
  | [] => some []
  | .str x :: ds => (strsD ds).map (x :: ·)
  | _ :: _ => none
theorem strs_rep {K : KW} {V : Hp} : ∀ {ds : List PyData} {vs : List L2.V} {ys : List Str}, RepL K V vs ds → strsD ds = some ys → vs = ys.map L2.V.str
  | _, _, _, .nil, h => by cases h; rfl
  | _, _, _, .cons r t, h => by
    cases r with
    | str x =>
      obtain ⟨ys, h1, rfl⟩ := Option.map_eq_some_iff.mp (show Option.map (x :: ·) (strsD _) = some _ from h)
      rw [strs_rep t h1]; rfl
    | _ => cases h
def gJoin (a : Str) : PyData → Option PyData
  | .list ds => (strsD ds).bind fun ys => if (ys.map (·.length)).sum + ys.length * a.length ≤ 16777216 then some (.str (mkS (TL.joinL (TL.tl a) (ys.map TL.tl)))) else none
  | _ => none
theorem join_data (a : Str) (ys : List Str) : Txt.join a ys = mkS (TL.joinL (TL.tl a) (ys.map TL.tl)) := by
  rw [TL.join_eq, ← TL.tl_join, mkS_tl]
/-- a number as a text -/
def gStr : List PyData → Option PyData
  | [.int i] => if 0 ≤ i ∧ i < 1000000 then some (.str (mkS (TL.numL i.toNat))) else none
  | _ => none
theorem num_data {i : Int} (h : 0 ≤ i) : Str.ofString (toString i) = mkS (TL.numL i.toNat) := by
  have e : i = ((i.toNat : Nat) : Int) := by omega
  have := TL.tl_num i.toNat
  rw [← e] at this
  rw [← this, mkS_tl]
theorem log_small {i : Int} (h0 : 0 ≤ i) (h : i < 1000000) : i.natAbs.log2 < 1920 := by
  by_cases hz : i.natAbs = 0
  · rw [hz]; decide
  · exact (Nat.log2_lt hz).mpr (Nat.lt_of_lt_of_le (by omega : i.natAbs < 2 ^ 20) (Nat.pow_le_pow_right (by decide) (by decide)))
theorem cd_str {K : KW} : CallD K (fun xs H Q => ∃ i, xs = [.int i] ∧ i.natAbs.log2 < 1920 ∧ Q (.str (toString i)) H) gStr := by
  intro xs ds z H V Q s r e q
  cases r with
  | nil => cases e
  | cons r1 r2 =>
    cases r2 with
    | cons _ _ => cases r1 <;> cases e
    | nil =>
      cases r1 with
      | int i =>
        obtain ⟨⟨h0, h1⟩, rfl⟩ := ite_some e
        refine ⟨i, rfl, log_small h0 h1, ?_⟩
        have := num_data h0
        exact q _ _ _ (Ext.refl s) (by rw [← this]; exact .str _)
      | _ => cases e
/-- a text as a number -/
def gIntS : List PyData → Option PyData
  | [.str a] => if a.length ≤ 640 then (PySem.intText? a).map .int else none
  | _ => none
theorem cd_intS {K : KW} : CallD K (fun xs H Q => ∃ a n, xs = [.str a] ∧ PySem.intText? a = some n ∧ a.length ≤ 640 ∧ Q (.int n) H) gIntS := by
  intro xs ds z H V Q s r e q
  cases r with
  | nil => cases e
  | cons r1 r2 =>
    cases r2 with
    | cons _ _ => cases r1 <;> cases e
    | nil =>
      cases r1 with
      | str a =>
        have e : (if a.length ≤ 640 then (PySem.intText? a).map PyData.int else none) = some z := e
        by_cases hl : a.length ≤ 640
        · rw [if_pos hl] at e
          obtain ⟨n, h1, rfl⟩ := Option.map_eq_some_iff.mp e
          exact ⟨a, n, rfl, h1, hl, q _ _ _ (Ext.refl s) (.int n)⟩
        · rw [if_neg hl] at e; cases e
      | _ => cases e
/-- the parts of an f-string -/
def partS : PyData → Option Str
  | .str y => if y.length ≤ LIM then some y else none
  | .int i => if 0 ≤ i ∧ i < 1000000 then some (mkS (TL.numL i.toNat)) else none
  | _ => none
def gF3 (c a : Str) (y : PyData) : Option PyData := match partS y with
  | some b => if a.length + c.length + b.length ≤ LIM then some (.str (a ++ c ++ b)) else none
  | none => none
def opF (c : Str) (fa fb : M PyData) : M PyData := M.bind fa fun x => match partS x with
  | some a => fun ρ => if a.length + c.length ≤ LIM then M.bind fb (fun y => M.opt (gF3 c a y)) ρ else .bad
  | none => fun _ => .bad
theorem ite_someS {p : Prop} [Decidable p] {a b : Str} (h : (if p then some a else none) = some b) : p ∧ a = b := by
  by_cases hp : p
  · rw [if_pos hp] at h; exact ⟨hp, Option.some.inj h⟩
  · rw [if_neg hp] at h; cases h
section
variable {X : Cx} {F : Fr} {o e e1 e2 : Expr} {fa fb : M PyData} {apos pos : Pos}
theorem pm_split (ho : PM X F o fa) (he : PM X F e fb) (hs : starEach [e] X.env = [(false, eval e X.env)] := by rfl) (hbase : attributeBase o "split" X.env (eval o X.env) = eval o X.env := by rfl) (hline : (apos.endLine == pos.line) = true := by rfl) :
    PM X F (.Call (.Attribute o "split" apos) [e] [] pos) (opS gSplit fa fb) := by
  refine PE.imp (pe_split ho he hs hbase hline) fun σ H Q ⟨V, ρ, E, g0⟩ => ⟨V, ρ, E, Goal.bind g0 fun x dx H1 V1 ρ1 st1 r1 g1 => ?_⟩
  cases r1 with
  | str a =>
    refine ⟨⟨a, rfl⟩, V1, ρ1, st1.env, Goal.bind g1 fun y dy H2 V2 ρ2 st2 r2 g2 => ?_⟩
    obtain ⟨z, ez, q⟩ := Goal.opt st2.env g2
    cases r2 with
    | str b =>
      obtain ⟨⟨h1, h2, h3⟩, rfl⟩ := ite_some ez
      have h4 : LIM + 2 ≤ sizeLine := by rw [sizeLine_eq]; decide
      refine ⟨a, b, rfl, rfl, h1, by omega, fun p hp => ?_⟩
      rw [split_data h1 h2]
      have e1 : ((TL.spl (TL.tl b) 0 [] (TL.tl a)).map fun l => PyData.str (mkS l)) = ((TL.spl (TL.tl b) 0 [] (TL.tl a)).map mkS).map PyData.str := by rw [List.map_map]; rfl
      rw [e1] at q
      exact q _ _ _ (Ext.new st2.env.sub hp) (new_lst st2.env.sub hp (repL_strs _))
    | _ => cases ez
  | _ => exact False.elim g1
theorem pm_join (ho : PM X F o fa) (he : PM X F e fb) (hs : starEach [e] X.env = [(false, eval e X.env)] := by rfl) (hbase : attributeBase o "join" X.env (eval o X.env) = eval o X.env := by rfl) (hline : (apos.endLine == pos.line) = true := by rfl) :
    PM X F (.Call (.Attribute o "join" apos) [e] [] pos) (opS gJoin fa fb) := by
  refine PE.imp (pe_join ho he hs hbase hline) fun σ H Q ⟨V, ρ, E, g0⟩ => ⟨V, ρ, E, Goal.bind g0 fun x dx H1 V1 ρ1 st1 r1 g1 => ?_⟩
  cases r1 with
  | str a =>
    refine ⟨⟨a, rfl⟩, V1, ρ1, st1.env, Goal.bind g1 fun y dy H2 V2 ρ2 st2 r2 g2 => ?_⟩
    obtain ⟨z, ez, q⟩ := Goal.opt st2.env g2
    cases r2 with
    | @lst p vs ds hp rl =>
      obtain ⟨ys, h1, h2⟩ := Option.bind_eq_some_iff.mp (show (strsD ds).bind _ = some z from ez)
      obtain ⟨h3, rfl⟩ := ite_some h2
      have ev := strs_rep rl h1
      subst ev
      rw [← join_data] at q
      exact ⟨a, p, ys, rfl, rfl, .inl (.inl (.inl (st2.env.sub _ _ hp))), h3, q _ _ _ (Ext.refl st2.env.sub) (.str _)⟩
    | _ => cases ez
  | _ => exact False.elim g1
theorem part_fmt {x : L2.V} {d : PyData} {K : KW} {V H : Hp} {y : Str} {Q : VK} (r : Rep K V x d) (h : partS d = some y) (q : Q (.str y) H) : (∃ y : Str, x = .str y ∧ y.length ≤ sizeLine ∧ Q (.str y) H) ∨ ∃ i : Int, x = .int i ∧ i.natAbs.log2 < 1920 ∧ Q (.str (toString i)) H := by
  cases r with
  | str z =>
    obtain ⟨h1, rfl⟩ := ite_someS (show (if z.length ≤ LIM then some z else none) = some y from h)
    exact .inl ⟨z, rfl, Nat.le_trans h1 lim_le, q⟩
  | int i =>
    obtain ⟨⟨h0, h1⟩, rfl⟩ := ite_someS (show (if 0 ≤ i ∧ i < 1000000 then some (mkS (TL.numL i.toNat)) else none) = some y from h)
    refine .inr ⟨i, rfl, log_small h0 h1, ?_⟩
    have := num_data h0
    show Q (.str (Str.ofString (toString i))) H
    rw [this]; exact q
  | _ => cases h
theorem len_app (a b : Str) : (a ++ b).length = a.length + b.length := by rw [TL.len_tl, TL.tl_append, List.length_append, ← TL.len_tl, ← TL.len_tl]
theorem emp_app (a : Str) : Str.empty ++ a = a := TL.ext_tl (by rw [TL.tl_append]; rfl)
theorem pm_f3 {c : Str} {j : Nat} {p1 p2 p3 : Pos} (h1 : PM X F e1 fa) (h2 : PM X F e2 fb) : PM X F (.JoinedStr [.FormattedValue e1 (-1) none p1, .Constant (.str c) j p2, .FormattedValue e2 (-1) none p3] pos) (opF c fa fb) := by
  refine PE.imp (pe_joined (.cons (pe_fmt h1) (.cons pe_str (.cons (pe_fmt h2) .nil)))) fun σ H Q ⟨V, ρ, E, g0⟩ => ?_
  refine ⟨V, ρ, E, Goal.bind g0 fun x dx H1 V1 ρ1 st1 r1 g1 => ?_⟩
  cases hp : partS dx with
  | none => rw [hp] at g1; exact False.elim g1
  | some a =>
    rw [hp] at g1
    by_cases hl : a.length + c.length ≤ LIM
    · have g1 : Goal X.kw F σ ρ1 H1 V1 (Rep X.kw) (if a.length + c.length ≤ LIM then M.bind fb (fun y => M.opt (gF3 c a y)) ρ1 else .bad) Q := g1
      rw [if_pos hl] at g1
      refine part_fmt (H := H1) (Q := fun x H1 => ∃ y, x = L2.V.str y ∧ (Str.empty ++ y).length ≤ sizeLine ∧ tJs [tC (L2.V.str c), tFmt (tM X.kw F fb)] (Str.empty ++ y) σ H1 fun out H1 => Q (L2.V.str out) H1) r1 hp ?_
      refine ⟨a, rfl, by have := lim_le; rw [emp_app]; omega, ?_⟩
      rw [emp_app]
      refine ⟨c, rfl, by have := lim_le; rw [len_app]; omega, V1, ρ1, st1.env, Goal.bind g1 fun y dy H2 V2 ρ2 st2 r2 g2 => ?_⟩
      obtain ⟨z, ez, q⟩ := Goal.opt st2.env g2
      unfold gF3 at ez
      cases hq : partS dy with
      | none => rw [hq] at ez; cases ez
      | some b =>
        rw [hq] at ez
        obtain ⟨hz, rfl⟩ := ite_some ez
        refine part_fmt (H := H2) (Q := fun x H1 => ∃ y, x = L2.V.str y ∧ (a ++ c ++ y).length ≤ sizeLine ∧ tJs [] (a ++ c ++ y) σ H1 fun out H1 => Q (L2.V.str out) H1) r2 hq ?_
        exact ⟨b, rfl, by have := lim_le; rw [len_app, len_app]; omega, q _ _ _ (Ext.refl st2.env.sub) (.str _)⟩
    · have g1 : Goal X.kw F σ ρ1 H1 V1 (Rep X.kw) (if a.length + c.length ≤ LIM then M.bind fb (fun y => M.opt (gF3 c a y)) ρ1 else .bad) Q := g1
      rw [if_neg hl] at g1
      exact False.elim g1
end
end DL
set_option Elab.async false
set_option linter.all false
set_option maxRecDepth 100000
set_option maxHeartbeats 4000000
namespace HD
open PySem PySem.Spec PyProof.Rows L2 L2H HotX LamX DL
variable [TabCtx]
abbrev IS := Int × Str
/-- a tuple of a number and a text -/
def IsIS (h : Heap) (b : Addr) (k : IS) : Prop := ∃ t t', IsTup h b #[.int k.1 t, .str k.2 t']
theorem IsIS.uniq {h : Heap} {b : Addr} {k k' : IS} (x : IsIS h b k) (y : IsIS h b k') : k = k' := by
  obtain ⟨t, t', o, ho, _, n, hd⟩ := x
  obtain ⟨u, u', o', ho', _, n', hd'⟩ := y
  rw [ho] at ho'; cases ho'
  rw [hd] at hd'
  injection hd' with e _
  have e := congrArg Array.toList e
  simp at e
  exact Prod.ext e.1.1 e.2.1
theorem isIS_vals {h : Heap} {b : Addr} {k : IS} (x : IsIS h b k) {its : List Value} {xs : List L2.V} (y : IsTup h b its.toArray) (r : Vals xs its) : xs = [.int k.1, .str k.2] := by
  obtain ⟨t, t', o, ho, _, n, hd⟩ := x
  obtain ⟨o', ho', _, n', hd'⟩ := y
  rw [ho] at ho'; cases ho'
  rw [hd] at hd'
  injection hd' with e _
  have e := congrArg Array.toList e
  have e : its = [.int k.1 t, .str k.2 t'] := by simpa using e.symm
  subst e
  obtain ⟨a, b', rfl, ra, rb⟩ : ∃ a b', xs = [a, b'] ∧ RelV a (.int k.1 t) ∧ RelV b' (.str k.2 t') := by
    cases r with
    | cons r1 r2 =>
      cases r2 with
      | cons r2 r3 => cases r3; exact ⟨_, _, rfl, r1, r2⟩
  have e1 : a = .int k.1 := by
    cases a with
    | int i => obtain ⟨t0, q⟩ := (show ∃ t0, Value.int k.1 t = Value.int i t0 from ra); injection q with q; rw [q]
    | str i => obtain ⟨t0, q⟩ := (show ∃ t0, Value.int k.1 t = Value.str i t0 from ra); cases q
    | non => exact absurd (show Value.int k.1 t = Value.none from ra) (fun z => nomatch z)
    | bl v => exact absurd (show Value.int k.1 t = Value.bool v from ra) (fun z => nomatch z)
    | ref v => exact absurd (show Value.int k.1 t = Value.ref v from ra) (fun z => nomatch z)
    | byt v => exact absurd (show ∃ t0, Value.int k.1 t = Value.bytes v t0 from ra) (fun ⟨_, q⟩ => nomatch q)
    | flt v => exact absurd (show ∃ t0, Value.int k.1 t = Value.float v t0 from ra) (fun ⟨_, q⟩ => nomatch q)
    | ty v => exact absurd (show Value.int k.1 t = Value.type v from ra) (fun z => nomatch z)
  have e2 : b' = .str k.2 := by
    cases b' with
    | int i => obtain ⟨t0, q⟩ := (show ∃ t0, Value.str k.2 t' = Value.int i t0 from rb); cases q
    | str i => obtain ⟨t0, q⟩ := (show ∃ t0, Value.str k.2 t' = Value.str i t0 from rb); injection q with q; rw [q]
    | non => exact absurd (show Value.str k.2 t' = Value.none from rb) (fun z => nomatch z)
    | bl v => exact absurd (show Value.str k.2 t' = Value.bool v from rb) (fun z => nomatch z)
    | ref v => exact absurd (show Value.str k.2 t' = Value.ref v from rb) (fun z => nomatch z)
    | byt v => exact absurd (show ∃ t0, Value.str k.2 t' = Value.bytes v t0 from rb) (fun ⟨_, q⟩ => nomatch q)
    | flt v => exact absurd (show ∃ t0, Value.str k.2 t' = Value.float v t0 from rb) (fun ⟨_, q⟩ => nomatch q)
    | ty v => exact absurd (show Value.str k.2 t' = Value.type v from rb) (fun z => nomatch z)
  rw [e1, e2]
open Classical in
noncomputable def satH (h0 : Heap) (ex : List Addr) (h : Heap) (H : Hp) : Hp := fun b =>
  if q : h0.get? b = none ∧ b ∉ ex ∧ ∃ k, IsIS h b k then some (.tup [.int (choose q.2.2).1, .str (choose q.2.2).2]) else H b
section
variable {P : Program} {w : World} {h0 h : Heap} {ex : List Addr} {H : Hp} {b : Addr}
theorem sat_in {k : IS} (h1 : h0.get? b = none) (h2 : b ∉ ex) (h3 : IsIS h b k) : satH h0 ex h H b = some (.tup [.int k.1, .str k.2]) := by
  have q : h0.get? b = none ∧ b ∉ ex ∧ ∃ k, IsIS h b k := ⟨h1, h2, k, h3⟩
  unfold satH
  rw [dif_pos q]
  have := (Classical.choose_spec q.2.2).uniq h3
  rw [this]
theorem sat_out (hn : ∀ k, ¬ IsIS h b k) : satH h0 ex h H b = H b := by
  unfold satH; rw [dif_neg fun q => hn _ q.2.2.choose_spec]
theorem sat_old {o : Obj} (ho : h0.get? b = some o) : satH h0 ex h H b = H b := by
  unfold satH; rw [dif_neg fun q => by rw [ho] at q; cases q.1]
theorem sat_ex (hb : b ∈ ex) : satH h0 ex h H b = H b := by
  unfold satH; rw [dif_neg fun q => q.2.1 hb]
theorem not_is {o : Obj} (ho : h.get? b = some o) (hd : ∀ its n, o.data ≠ .seq its n) : ∀ k, ¬ IsIS h b k := fun k ⟨_, _, o', ho', _, n, hd'⟩ => by
  rw [ho] at ho'; cases ho'
  exact hd _ _ hd'
theorem sat_tup (ok : HOk P w H h) {xs : List L2.V} (e : H b = some (.tup xs)) : satH h0 ex h H b = some (.tup xs) := by
  by_cases q : h0.get? b = none ∧ b ∉ ex ∧ ∃ k, IsIS h b k
  · obtain ⟨q1, q2, k, q3⟩ := q
    rw [sat_in q1 q2 q3]
    obtain ⟨_, its, r, p⟩ := ok b _ e
    rw [isIS_vals q3 p r]
  · unfold satH; rw [dif_neg q]; exact e
theorem ObjOk.sat (ok : HOk P w H h) {a : Addr} {o : HO} (x : ObjOk P w H h a o) : ObjOk P w (satH h0 ex h H) h a o := by
  induction o with
  | dT kvs =>
    obtain ⟨z, y, xs, r, c⟩ := x
    exact ⟨z, y, xs, L2.Paired.mapP r fun p q z => ⟨z.1, sat_tup ok z.2.1, z.2.2⟩, c⟩
  | ins C dx fs =>
    obtain ⟨d, z, ne, e, mA, hns, r⟩ := x
    refine ⟨?_, z, ne, e, mA, hns, r⟩
    obtain ⟨od, es, ep, e2, e3, _⟩ := hns
    rw [sat_out (not_is e2 fun its n q => by rw [e3] at q; cases q)]
    exact d
  | frz ob u ih => exact ⟨x.1, ih x.2⟩
  | lst xs => exact x
  | tup xs => exact x
  | dK kvs => exact x
  | set S n => exact x
  | own y => exact x
  | xd fs => exact x
  | rng lo hi => exact x
  | tbl ps => exact x
  | met f y => exact x
  | ext φ => exact x
theorem HOk.sat (ok : HOk P w H h) : HOk P w (satH h0 ex h H) h := fun a o e => by
  by_cases q : h0.get? a = none ∧ a ∉ ex ∧ ∃ k, IsIS h a k
  · obtain ⟨q1, q2, k, q3⟩ := q
    rw [sat_in q1 q2 q3] at e
    cases e
    obtain ⟨t, t', p⟩ := q3
    exact ⟨by show 2 ≤ sizeLine; decide, [.int k.1 t, .str k.2 t'], .cons ⟨t, rfl⟩ (.cons ⟨t', rfl⟩ .nil), p⟩
  · have e' : H a = some o := by
      have : satH h0 ex h H a = H a := by unfold satH; rw [dif_neg q]
      rw [← this]; exact e
    exact ObjOk.sat ok (ok a o e')
theorem hok_some (ok : HOk P w H h) {o : HO} (e : H b = some o) : ∃ ob, h.get? b = some ob := by
  have lt := (ok b o e)
  have : ∀ {a : Addr} {u : HO}, ObjOk P w H h a u → ∃ ob, h.get? a = some ob := fun {a u} x1 => by
    induction u with
    | lst xs1 => obtain ⟨_, _, _, _, e⟩ := x1; exact ⟨_, e⟩
    | tup xs => obtain ⟨_, _, _, o, e, _⟩ := x1; exact ⟨_, e⟩
    | dK kvs => obtain ⟨_, _, _, _, o, _, _, e, _⟩ := x1; exact ⟨_, e⟩
    | dT kvs => obtain ⟨_, _, _, _, o, _, _, e, _⟩ := x1; exact ⟨_, e⟩
    | set S n => obtain ⟨o, _, _, _, e, _⟩ := x1; exact ⟨_, e⟩
    | ins C1 dx1 fs1 => obtain ⟨_, _, _, e, _⟩ := x1; exact ⟨_, e⟩
    | own y => obtain ⟨_, e⟩ := x1; exact ⟨_, e⟩
    | xd fs => obtain ⟨_, ⟨_, _, _, e, _⟩, _⟩ := x1; exact ⟨_, e⟩
    | rng lo1 hi1 => obtain ⟨_, _, _, e⟩ := x1; exact ⟨_, e⟩
    | frz ob u _ => obtain ⟨e, _⟩ := x1; exact ⟨_, e⟩
    | tbl ps => exact ⟨_, (show h.get? a = some _ from x1)⟩
    | met f y => exact ⟨_, (show h.get? a = some _ from x1)⟩
    | ext φ1 => obtain ⟨_, ⟨_, e⟩, _⟩ := x1; exact ⟨_, e⟩
  exact this lt
end
/-- the state between two calls -/
structure JC (P : Program) (w : World) (outer : List Env) (s0 : Shared) (H V : Hp) (ex : List Addr) (s : Shared) (H' : Hp) : Prop where
  os : s.os = s0.os
  bare : AllBare s.gens
  un : Un (frs outer) [] H H' s0.heap s.heap
  hok : HOk P w H' s.heap
  ext : Ext H V H' V
  out : ∀ b ∈ ex, H' b = none
  sat : ∀ b k, s0.heap.get? b = none → b ∉ ex → IsIS s.heap b k → H' b = some (.tup [.int k.1, .str k.2])
section
variable {P : Program} {w : World} {outer : List Env} {s0 s : Shared} {H V H2 V2 : Hp} {ex : List Addr}
theorem tabs_sat {h0 h : Heap} {T : List (Addr × Str)} (ok : HOk P w H2 h) (t : LamX.Tabs T H2) : LamX.Tabs T (satH h0 ex h H2) := fun p hp => by
  obtain ⟨ps, h1, h2, h3⟩ := t p hp
  refine ⟨ps, ?_, h2, fun pos cv hc => ?_⟩
  · have e : h.get? p.1 = some { cls := .none, data := .fields ps } := ok p.1 _ h1
    rw [sat_out (not_is e fun its n q => nomatch q)]; exact h1
  · obtain ⟨c, e1, e2⟩ := h3 pos cv hc
    refine ⟨c, e1, ?_⟩
    obtain ⟨⟨oc, vs, t, hoc, hdc, _⟩, _, _⟩ := ok c _ e2
    rw [sat_out (not_is hoc fun its n q => by rw [hdc] at q; cases q)]; exact e2
theorem JC.of (ok0 : HOk P w H s0.heap) (sv : Same V H) (hex : ∀ b ∈ ex, s0.heap.get? b = none) (os : s.os = s0.os) (bare : AllBare s.gens) (un : Un (frs outer) [] H H2 s0.heap s.heap) (hok : HOk P w H2 s.heap) (x : Ext H V H2 V2) (out : ∀ b ∈ ex, H2 b = none) : JC P w outer s0 H V ex s (satH s0.heap ex s.heap H2) := by
  have old : ∀ b o, H b = some o → satH s0.heap ex s.heap H2 b = H2 b := fun b o e => by
    obtain ⟨ob, e'⟩ := hok_some ok0 e
    exact sat_old e'
  refine ⟨os, bare, ⟨un.keep, un.slot, fun b o q n hx => ?_, un.there, fun b xs q => ?_, fun b o u q => ?_, fun b ps q => ?_⟩, HOk.sat hok, ⟨fun b o e nt => ?_, Same.refl _, fun b o e => ?_, fun b e _ => e, fun b e => ?_, fun t => tabs_sat hok (x.t t)⟩, fun b hb => ?_, fun b k e1 e2 e3 => sat_in e1 e2 e3⟩
  · rw [sat_old q]; exact un.free b o q n hx
  · rw [old b _ q]; exact un.tups b xs q
  · rw [old b _ q]; exact un.frzs b o u q
  · rw [old b _ q]; exact un.tbls b ps q
  · rw [old b o e]; exact x.h b o e nt
  · have e' := x.s b o (x.v b o e)
    rw [old b _ (sv b o e)]; exact e'
  · cases q : H b with
    | none => exact absurd q e
    | some o => rw [old b o q]; exact x.th b e
  · rw [sat_ex hb]; exact out b hb
end
end HD
set_option Elab.async false
set_option linter.all false
set_option maxRecDepth 100000
set_option maxHeartbeats 4000000
set_option Elab.async false
set_option linter.all false
set_option maxRecDepth 100000
set_option maxHeartbeats 4000000
set_option Elab.async false
set_option linter.all false
set_option maxRecDepth 100000
set_option maxHeartbeats 4000000
namespace DL
open PySem PySem.Spec PyProof.Rows L2
end DL
set_option Elab.async false
set_option linter.all false
set_option maxRecDepth 100000
set_option maxHeartbeats 4000000
namespace DL
open PySem PySem.Spec PyProof.Rows L2
end DL
set_option Elab.async false
set_option linter.all false
set_option maxRecDepth 100000
set_option maxHeartbeats 4000000
namespace DL
open PySem PySem.Spec PyProof.Rows L2
end DL
set_option Elab.async false
set_option linter.all false
set_option maxRecDepth 100000
set_option maxHeartbeats 4000000
namespace DL
open PySem PySem.Spec PyProof.Rows L2
end DL
set_option Elab.async false
set_option linter.all false
set_option maxRecDepth 100000
set_option maxHeartbeats 4000000
namespace DL
open PySem PySem.Spec PyProof.Rows L2
variable [TabCtx]
/-- a call of dict with a dict by tuples -/
theorem call_dict_same {prog : Program} {w : World} {A : Around} {E1 : Value → Shared → Prop} {s : Shared} {c : Addr} {ys : List (NestedKey × Addr × Value)} {R : Value → Shared → Prop} (hu : (nestedKind prog w).room A.in1.in1) (hS : (c == sysModules) = false) (hd : s.heap.DictOfH (nestedKind prog w) c ys)
    (hT : ∀ y ∈ ys, s.TypeIs (.ref y.2.1) "tuple") (hN : (ys.map fun y => y.1.hash w).Nodup) (hl : ys.length ≤ sizeLine)
    (hR : ∀ h', h'.DictOfH (nestedKind prog w) s.heap.objs.size ys → (∀ b o, s.heap.get? b = some o → h'.get? b = some o) → R (.ref s.heap.objs.size) { s with heap := h' }) :
    wpAny (model prog w) A (call (.type "dict") [.ref c]) R E1 s := by
  obtain ⟨o0, es0, ep0, g0, _⟩ := id hd
  have lc : c ≠ s.heap.objs.size := Nat.ne_of_lt (Heap.lt_size g0)
  have up : ∀ b o, s.heap.get? b = some o → (s.heap.push { cls := .type "dict", data := .dict #[] }).get? b = some o := fun _ _ e => Heap.get?_push_of_some _ e
  refine callType_codes (Q₁ := fun ob t1 => ob = .ref s.heap.objs.size ∧ t1 = { s with heap := s.heap.push { cls := .type "dict", data := .dict #[] } })
    F.kt_called_dict (F.kt_typeCall_dict_1 _) F.entry_dict_init (kt_code_dict_new _ ⟨rfl, rfl⟩) ?_
  rintro ob t1 ⟨rfl, rfl⟩
  have ty : Shared.TypeIs { s with heap := s.heap.push { cls := .type "dict", data := .dict #[] } } (.ref s.heap.objs.size) "dict" := ⟨_, Heap.get?_push_size _ rfl, rfl⟩
  refine ⟨ty, F.args_dict_init_2 _ _, ?_⟩
  unfold Builtin.«dict.__init__»
  refine wpAny_bind ?_
  unfold Builtin.Dict.selfAndRest
  refine wpAny_bind (wpAny_notOrdered_dict ty ?_)
  show wpAny _ _ (pure (s.heap.objs.size, [Value.ref c])) _ _ _
  refine wpAny_pure ?_
  have hd1 : (s.heap.push { cls := .type "dict", data := .dict #[] }).DictOfH (nestedKind prog w) c ys := by
    obtain ⟨o, es, ep, h1, h2, h3, h4, h5, h6⟩ := hd
    refine ⟨o, es, ep, up _ _ h1, h2, h3, h4, fun y hy => ?_, h6⟩
    obtain ⟨n1, n2⟩ := h5 y hy
    exact ⟨NestedIs.at (fun b ob vs n hb hc => up _ _ hb) _ _ n1, n2⟩
  refine updateFrom_dictH (A := A.in1) (knd := nestedKind prog w) (kvs := []) .none hu (fun e => lc e.symm) hS (Heap.DictOfH.new s.heap) hd1 (.inr ⟨fun y hy => ?_, hN⟩) (by simpa using hl) fun h' q1 q2 q3 => ?_
  · obtain ⟨o, h1, h2⟩ := hT y hy
    exact ⟨o, up _ _ h1, h2⟩
  · refine ⟨rfl, hR h' ?_ fun b o e => (q3.2 b fun z => ?_).trans (up _ _ e)⟩
    · rw [storedAllH_nil_of_nodup ys hd.nodup] at q1; exact q1
    · rw [z] at e; exact absurd (Heap.lt_size e) (Nat.lt_irrefl _)
def isTupK : NestedKey → Bool
  | .tup _ => true
  | _ => false
def rDictC (w : World) : List L2.V → Hp → VK → Prop := fun xs H Q => ∃ (a : Addr) (ys : List (NestedKey × Addr × L2.V)) (ep : Nat), xs = [.ref a] ∧ H a = some (dX w a ys ep) ∧ KeysAt H ys ∧ (∀ y ∈ ys, isTupK y.1 = true) ∧ (ys.map fun y => y.1.hash w).Nodup ∧ ∀ p ep', H p = none → Q (.ref p) (upd H p (dX w p ys ep'))
theorem call_dictC {X : Cx} (hu : X.A.units + 64 < cLine) : CallR X (.type "dict") (rDictC X.w) := by
  intro pins s σ H xs us Q I r h
  obtain ⟨a, ys, ep, rfl, ha, hk, ht, hn, q⟩ := h
  obtain ⟨u, rfl, rx⟩ := vals1 r
  cases rx
  obtain ⟨z, hS, ws, rel, hd⟩ := dx_of I.hok ha hk
  have keyEq : ys.map (·.1) = ws.map (·.1) := PX.keys rel
  have hl : ws.length = ys.length := (Paired.length rel).symm
  have hn' : (ws.map fun y => y.1.hash X.w).Nodup := by
    have e : (ws.map fun y => y.1.hash X.w) = (ws.map (·.1)).map fun k => k.hash X.w := by rw [List.map_map]; rfl
    rw [e, ← keyEq, List.map_map]; exact hn
  have hT : ∀ y ∈ ws, s.TypeIs (.ref y.2.1) "tuple" := fun y hy => by
    obtain ⟨x, hx, e1, e2⟩ := PX.mem rel y hy
    have := ht x hx
    obtain ⟨o, es, ep', h1, h2, h3, h4, h5, h6⟩ := id hd
    obtain ⟨n1, n2⟩ := h5 y hy
    rw [e1] at this
    cases hk1 : y.1 with
    | tup ks =>
      rw [hk1] at n1
      cases n1 with
      | tup w1 w2 w3 w4 => exact ⟨_, w1, w2⟩
    | _ => rw [hk1] at this; cases this
  refine call_dict_same (by show X.A.units + 1 + 1 + 8 < cLine; omega) hS hd hT hn' (by omega) fun h' dd kp => ?_
  obtain ⟨ep', ob⟩ := dx_new z (beq_eq_false_iff_ne.mpr (Ne.symm (Nat.ne_of_lt I.big))) rel dd
  exact ⟨.ref s.heap.objs.size, _, I.laid kp (Nat.le_refl _) (ob _), rfl, q _ ep' (I.hok.fresh (Nat.le_refl _))⟩
def pHash (i j : Int) : Int := reduceHash (Builtin.Tuple.tupleHashOf [hashInt i, hashInt j])
def pairHs : List (PyData × PyData) → Option (List Int)
  | [] => some []
  | (.tuple [.int i, .int j], _) :: ps => (pairHs ps).map fun hs => pHash i j :: hs
  | _ :: _ => none
def gDictC : List PyData → Option PyData
  | [.dict ps] => (pairHs ps).bind fun hs => if hs.Nodup then some (.dict ps) else none
  | _ => none
theorem pairHs_rep {K : KW} {V : Hp} : ∀ {ys : List (NestedKey × Addr × L2.V)} {ps : List (PyData × PyData)} {hs : List Int}, RepT K V ys ps → pairHs ps = some hs → (∀ y ∈ ys, isTupK y.1 = true) ∧ ys.map (fun y => y.1.hash K.w) = hs
  | _, _, _, .nil, e => by cases e; exact ⟨(fun y hy => nomatch hy), rfl⟩
  | _, _, _, .cons (k := k) (dk := dk) q n z r t, e => by
    unfold pairHs at e
    split at e
    · next h => cases h
    · next i j d ps h =>
      injection h with h1 h2
      injection h1 with h1 h3
      subst h1 h2
      obtain ⟨hs', e1, rfl⟩ := Option.map_eq_some_iff.mp e
      obtain ⟨a1, a2⟩ := pairHs_rep t e1
      have n : some (NestedKey.tup [.num i, .num j]) = some k := n
      injection n with n
      subst n
      refine ⟨fun y hy => ?_, ?_⟩
      · rcases List.mem_cons.mp hy with w1 | hy
        · rw [w1]; rfl
        · exact a1 y hy
      · rw [List.map_cons, a2]; rfl
    · cases e
section
variable {X : Cx} {F : Fr} {e : Expr} {fs : M (List PyData)} {p pos : Pos}
theorem pmf_dictC (hm : X.mg "dict" = none) (hu : X.A.units + 64 < cLine) (ha : PMA X F [e] fs) (hg : Gl X "dict" := by rfl) (he : starEach (e :: []) X.env = (false, eval e X.env) :: starEach [] X.env := by rfl) (hpl : (backTo pos (starEach [] X.env)).any (·.1) = false := by rfl) : PMF X F (.Call (.Name "dict" p) [e] [] pos) (opA gDictC fs) := by
  refine PE.imp (pe_callTy (call_dictC hu) hg hm (by decide +kernel) ha (by decide) (by decide) he hpl) fun σ H Q ⟨V, ρ, E, g0⟩ => ⟨V, ρ, E, GoalF.bind g0 fun xs ds H1 V1 ρ1 st1 r1 g1 => ?_⟩
  obtain ⟨z, ez, q⟩ := GoalF.opt st1.env g1
  have s := st1.env.sub
  cases r1 with
  | nil => cases ez
  | cons r1 r2 =>
    cases r2 with
    | cons _ _ => cases r1 <;> cases ez
    | nil =>
      cases r1 with
      | @dk a kvs ps h rk ne =>
        exfalso
        cases rk with
        | nil => exact ne rfl
        | @cons k v kvs d ps r t => cases k <;> cases ez
      | @dt a ys ep ps h rt =>
        have ez : (pairHs ps).bind (fun hs => if hs.Nodup then some (PyData.dict ps) else none) = some z := ez
        obtain ⟨hs, e1, e2⟩ := Option.bind_eq_some_iff.mp ez
        obtain ⟨nd, rfl⟩ := ite_some e2
        obtain ⟨a1, a2⟩ := pairHs_rep rt e1
        refine ⟨a, ys, ep, rfl, s _ _ h, rt.keysAt s, a1, by rw [show (ys.map fun y => y.1.hash X.w) = hs from a2]; exact nd, fun p ep' hp => q _ _ _ (Ext.hid s hp) ⟨p, rfl, s.free hp, hp, .inr ⟨_, _, upd_same, rt⟩⟩⟩
      | _ => cases ez
end
end DL
set_option Elab.async false
set_option linter.all false
set_option maxRecDepth 100000
set_option maxHeartbeats 4000000
namespace L2
open PySem PySem.Spec PyProof.Rows
section
variable {P : Program} {w : World} {A : Around} {E : Value → Shared → Prop} {s : Shared}
abbrev set00 (w : World) : Obj := { cls := .type "set", dict := none, data := .set #[] 0 (.fresh 0 0 (!w.params.followText "set-order")) }
set_option maxRecDepth 100000 in
set_option maxHeartbeats 3200000 in
theorem call_set_lstI {b0 : Addr} {vs : Array Value} (ks : List Int) {R : Value → Shared → Prop} (h0 : A.handled = none) (hv : s.heap.IsList b0 vs) (hk : IntsAre vs.toList ks) (hsz : ks.length + 1 < scanBound)
    (fin : ∀ (h1 : Heap) (tk c : Nat), SetR w h1 s.heap.objs.size (fun j => decide (j ∈ ks)) c → c ≤ ks.length → (∀ b o, s.heap.get? b = some o → h1.get? b = some o) → R (.ref s.heap.objs.size) { s with heap := h1, toks := tk }) :
    wpAny (model P w) A (call (.type "set") [.ref b0]) R E s := by
  have vsz : vs.size = ks.length := by
    have q := IntsAre.length hk
    rw [Array.length_toList] at q
    exact q
  obtain ⟨mr1, mr2, hmro⟩ := F.called_set.mro
  have hMd := F.called_set.made
  have hSb := F.called_set.sub
  refine wpAny_call (codeAny_of_tree ?_)
  show wpAny _ _ (callAny (.type "set") _) _ _ _
  refine wpAny_pure ⟨Code.quiet_builtin _ (by decide +kernel), codeAny_builtin F.entry_type_call ?_⟩
  rw [Around.under_plain (weight_type_call_type "set" [.ref b0] []) rfl]
  have hA1 := F.called_set.notType
  have hA2 := F.called_set.canCreate
  have hA3 := F.typeCall_set_1 (.ref b0)
  repeat (any_goals (first | assumption | wp_step))
  refine codeAny_mono (code_set_led1 (.ref b0) (E := E) (Q₁ := fun ob t1 => ob = .ref s.heap.objs.size ∧ t1 = { s with heap := s.heap.push (set00 w) }) ⟨rfl, rfl⟩) fun r t1 hr => ?_
  cases r with
  | error e => exact hr
  | ok fl =>
    cases fl with
    | ret ob =>
      obtain ⟨rfl, rfl⟩ := hr
      have gS : (s.heap.push (set00 w)).get? s.heap.objs.size = some (set00 w) := Heap.get?_push_size _ rfl
      have tS : Shared.TypeIs { s with heap := s.heap.push (set00 w) } (.ref s.heap.objs.size) "set" := ⟨_, gS, rfl⟩
      have iL := F.called_set.init.lookup
      have iB := F.called_set.init.bind (.ref s.heap.objs.size)
      repeat (any_goals (first | assumption | wp_step))
      refine codeAny_mono (codeAny_call_builtin (R := wants (fun r t2 => r = .none ∧ ∃ h1 tk c, t2 = { s with heap := h1, toks := tk } ∧ SetR w h1 s.heap.objs.size (fun j => decide (j ∈ ks)) c ∧ c ≤ ks.length ∧
          (∀ b o, s.heap.get? b = some o → h1.get? b = some o)) E) F.called_set.init.plain F.entry_set_init (check_set_init_1 tS ?_)) fun r2 t2 hr2 => ?_
      · obtain ⟨o0, ho0, hc0, n0, hd0⟩ := hv
        obtain ⟨oc, od, oda, osl⟩ := o0
        simp only at hc0 hd0
        subst hc0; subst hd0
        have ho1 : (s.heap.push (set00 w)).get? b0 = some { cls := .type "list", dict := od, data := .seq vs n0, slots := osl } := Heap.get?_push_of_some _ ho0
        have sb1 := F.sub_list_set
        have sb2 := F.sub_list_frozenset
        have nd1 : (Value.type "list" == Value.type "dict") = false := by decide
        have hv1 : (s.heap.push (set00 w)).IsList b0 vs := ⟨_, ho1, rfl, n0, rfl⟩
        unfold Builtin.«set.__init__» noKeywords Builtin.Frozenset.updateFrom
        generalize hPI : pyIter = PI
        wp_walk
        subst hPI
        refine wpAny_pyIter_list hv1 ?_
        refine wpAny_bind (wpAny_runValue ?_)
        have hlt0 : b0 < s.heap.objs.size := Heap.lt_size ho0
        have hh0 : A.in1.in1.in1.handled = none := by simp [h0]
        have hz0 : (s.heap.push (set00 w)).objs.size = s.heap.objs.size + 1 := Heap.size_push ..
        have hne0 : b0 ≠ (s.heap.push (set00 w)).objs.size := by
          rw [hz0]; exact Nat.ne_of_lt (Nat.lt_succ_of_lt hlt0)
        have hnS : s.heap.objs.size ∉ [(s.heap.push (set00 w)).objs.size, b0] := by
          rw [hz0]; simp only [List.mem_cons, List.mem_singleton, List.not_mem_nil, or_false, not_or]
          exact ⟨Nat.ne_of_lt (Nat.lt_succ_self _), Nat.ne_of_gt hlt0⟩
        have hat : ∀ (i : Nat) (v : Value), vs[i]? = some v → ∃ k t, ks[i]? = some k ∧ v = .int k t := fun i v hiv => by
          have hik : i < ks.length := by rw [← vsz]; exact (Array.getElem?_eq_some_iff.mp hiv).1
          obtain ⟨t, e⟩ := PyProof.Rows.IntsAre.int_at hk i v (by rw [Array.getElem?_toList]; exact hiv)
          refine ⟨ks[i], t, List.getElem?_eq_getElem hik, ?_⟩
          rw [e, List.getD_eq_getElem?_getD, List.getElem?_eq_getElem hik] <;> rfl
        refine set_update_ints ((Walks.list hh0 _ b0 hne0 vs).toS) s.heap.objs.size
          hnS ks vsz hsz hat (vs.size - 0) 0 _ (by omega) (Nat.zero_le _)
          ⟨⟨_, Heap.get?_push_size _ rfl, rfl, rfl⟩, (hv1.push _)⟩ ?hS0 ?hR
        case hS0 =>
          have g2 : ((s.heap.push (set00 w)).push { cls := .type "list_iterator", data := .fields #[.ref b0, .int 0 0] }).get? s.heap.objs.size = some (set00 w) := Heap.get?_push_of_some _ gS
          exact ⟨0, Nat.le_refl 0, setR_new_at g2⟩
        case hR =>
          intro t3 c3 hm hc3 hS3
          obtain ⟨h3, g3, d3, tk3, os3⟩ := t3
          have e1 : g3 = s.gens := hm.gens
          have e2 : d3 = s.drawn := hm.drawn
          have e3 : os3 = s.os := hm.os
          subst e1; subst e2; subst e3
          show wpAny _ _ _ _ _ _
          refine wpAny_pure ?_
          show wpAny _ _ (ret Value.none) _ _ _
          rw [vsz] at hc3
          refine wpAny_pure ⟨rfl, h3, tk3, c3, rfl, hS3, hc3, fun b o e => ?_⟩
          have q0 : b < s.heap.objs.size := Heap.lt_size e
          have q1 : b ≠ s.heap.objs.size := Nat.ne_of_lt q0
          have q2 : b ≠ (s.heap.push (set00 w)).objs.size := by
            rw [hz0]; exact Nat.ne_of_lt (Nat.lt_succ_of_lt q0)
          exact hm.heap b o (by simp only [List.mem_cons, List.mem_singleton, List.not_mem_nil, or_false, not_or]; exact ⟨q1, q2⟩) (Heap.get?_push_of_some _ (Heap.get?_push_of_some _ e))
      · cases r2 with
        | error e => exact hr2
        | ok fl2 =>
          cases fl2 with
          | ret r =>
            obtain ⟨rfl, h3, tk3, c3, rfl, hS3, hc3, hk3⟩ := hr2
            repeat (any_goals (first | assumption | wp_step))
            exact fin _ _ _ hS3 hc3 hk3
          | _ => exact hr2.elim
    | _ => exact hr.elim
end
end L2
set_option Elab.async false
set_option linter.all false
set_option maxRecDepth 100000
set_option maxHeartbeats 4000000
namespace DL
open PySem PySem.Spec PyProof.Rows L2
variable [TabCtx]
def ltI (a b : Int) : Bool := decide (a < b)
def sortU (ns : List Int) : List Int := SrtQ.isort ltI (dd ns)
theorem swo_ltI : SrtO.Swo ltI := ⟨fun x y h => by
  unfold ltI at *; rw [decide_eq_true_iff] at h; rw [decide_eq_false_iff_not]; omega, fun x y z h1 h2 => by
  unfold ltI at *; rw [decide_eq_false_iff_not] at *; omega⟩
theorem sortU_eq {ns ms : List Int} (hp : ms.Pairwise (· < ·)) (hm : ∀ k, k ∈ ms ↔ k ∈ ns) : ms = sortU ns := by
  refine SrtQ.perm_uniq swo_ltI (fun x y h1 h2 => ?_) ?_ (SrtQ.isort_srtd swo_ltI (dd ns)) (List.Perm.trans ?_ (SrtQ.isort_perm (dd ns)).symm)
  · unfold ltI at h1 h2; rw [decide_eq_false_iff_not] at h1 h2; omega
  · exact hp.imp fun {a b} h => by unfold ltI; rw [decide_eq_false_iff_not]; omega
  · exact (List.perm_ext_iff_of_nodup (hp.imp fun {a b} h => by omega) dd_nodup).mpr fun k => by rw [hm, dd_mem]
theorem repI {K : KW} {V : Hp} : ∀ ns : List Int, RepL K V (ns.map L2.V.int) (ns.map PyData.int)
  | [] => .nil
  | n :: ns => .cons (.int n) (repI ns)
def gSortI : PyData → Option PyData
  | .list ds => (intsD ds).bind fun ns => if ns.length ≤ 4000 ∧ (dd ns).length < 64 then some (.list ((sortU ns).map .int)) else none
  | _ => none
section
variable {X : Cx} {F : Fr} {a : Expr} {fa : M PyData} {p p2 q pos : Pos}
theorem pm_sortSet (hm : X.mg "sorted" = none) (hm2 : X.mg "set" = none) (ha : PM X F a fa) (hg : Gl X "sorted" := by rfl) (hg2 : Gl X "set" := by rfl) (hc : X.calm = true := by rfl)
    (na : starEach [a] X.env = (false, eval a X.env) :: starEach [] X.env := by rfl) : PM X F (.Call (.Name "sorted" p) [.Call (.Name "set" p2) [a] [] q] [] pos) (op1 gSortI fa) := by
  refine ⟨fun pins s σ H Q I h => ?_⟩
  refine Call_ (ld_blt I hg hm boot_sorted ?_)
  refine PyProof.Rows.callWith_builtin1 (PyProof.Rows.args_cons ?_ rfl) rfl rfl
  refine Call_ (ld_blt I hg2 hm2 boot_set ?_)
  obtain ⟨V, ρ, E, g0⟩ := h
  refine PyProof.Rows.callWith_type1 (PyProof.Rows.args_cons (thn (ha.run pins s σ H (fun x H1 => (∃ (l : Addr) (ns : List Int), x = .ref l ∧ SqL X.kw H1 l (ns.map L2.V.int) ∧ (ns.length ≤ 4000 ∧ (dd ns).length < 64) ∧ ∀ p, H1 p = none → Q (.ref p) (upd H1 p (.lst ((sortU ns).map L2.V.int))))) I ⟨V, ρ, E, Goal.bind g0 fun x dx H1 V1 ρ1 st1 r1 g1 => ?_⟩) fun v s1 ⟨x, H1, I1, r1, q1⟩ => PyProof.Rows.args_nil ?_) na) na rfl
  · obtain ⟨z, ez, q⟩ := Goal.opt st1.env g1
    cases r1 with
    | @lst b xs ds hb rb =>
      have ez : ((intsD ds).bind fun ns => if ns.length ≤ 4000 ∧ (dd ns).length < 64 then some (PyData.list ((sortU ns).map .int)) else none) = some z := ez
      obtain ⟨ns, h1, h2⟩ := Option.bind_eq_some_iff.mp ez
      obtain ⟨h3, rfl⟩ := ite_some h2
      have e := ints_rep rb h1
      subst e
      refine ⟨b, ns, rfl, .inl (.inl (st1.env.sub _ _ hb)), h3, fun p hp => q _ _ _ (Ext.new st1.env.sub hp) (new_lst st1.env.sub hp ?_)⟩
      exact repI (sortU ns)
    | _ => cases ez
  · obtain ⟨l, ns, rfl, hq, hl, q1⟩ := q1
    cases r1
    obtain ⟨its, r, pl, hz⟩ := I1.list hq
    refine L2.call_set_lstI ns (I1.ok.hd hc) pl.isList (by simpa using RZ.intsAre_vals r) (by unfold scanBound; omega) fun h' tk c hS hle hk => ?_
    refine PyProof.Rows.args_nil ?_
    have I2 : Inv X pins σ H1 { s1 with heap := h', toks := tk } := I1.kept hk
    have hcn : c = (dd ns).length := by
      obtain ⟨o, es, ep, t, ho, hex, hd, g, nd, hmm, hb, hf, hn, _⟩ := id hS
      have := nodup_len nd (dd_nodup (xs := ns)) fun k => by rw [← hmm k, dd_mem]; simp
      rw [List.length_map, Array.length_toList, hn] at this
      exact this
    refine sorted_set (s := { s1 with heap := h', toks := tk }) hS (I2.ok.hd hc) (by omega) fun t2 u2 out c2 ms k g o hp hgt hi hs hms hml => ?_
    have em : ms = sortU ns := sortU_eq hs fun k => by rw [hms]; simp
    have hlen : (ms.map L2.V.int).length ≤ sizeLine := by rw [List.length_map, hml, sizeLine_eq]; omega
    have hn : H1 u2 = none := I2.hok.fresh hp
    have J : Inv X pins σ (upd H1 u2 (.lst (ms.map L2.V.int))) { ({ s1 with heap := h', toks := tk } : Shared) with heap := t2.heap, gens := t2.gens, drawn := t2.drawn, toks := t2.toks } :=
      I2.call (ch := []) (Un.laid k hp hn) (I2.hok.laid k hp ⟨hlen, out.toList, c2, vals_of_ints hi, hgt⟩) (by rw [g]; exact I2.bare) (fun _ z => nomatch z)
    have e : t2 = { ({ s1 with heap := h', toks := tk } : Shared) with heap := t2.heap, gens := t2.gens, drawn := t2.drawn, toks := t2.toks } := by
      cases t2
      cases o
      rfl
    rw [e]
    exact ⟨.ref u2, _, J, rfl, by rw [em]; exact q1 u2 hn⟩
end
end DL
set_option Elab.async false
set_option linter.all false
set_option maxRecDepth 100000
set_option maxHeartbeats 2000000
namespace HD
open PySem PySem.Spec PyProof.Rows L2 L2H HotX
/-- a caught exception as a value: its class and dict are known -/
def exr (a : Addr) (cls : Value) (d : Option Addr) : HO := .ext fun h => ∃ oe, h.get? a = some oe ∧ Zc cls d oe ∧ ∃ vs, oe.data = .fields vs
theorem exr_ok {P : Program} {w : World} {H : Hp} {h : Heap} {a : Addr} {cls : Value} {d : Option Addr} {oe : Obj} (e : h.get? a = some oe) (z : Zc cls d oe) (f : ∃ vs, oe.data = .fields vs) : ObjOk P w H h a (exr a cls d) :=
  ⟨⟨oe, e, z, f⟩, ⟨oe, e⟩, fun _ _ ⟨o, q, r⟩ k => ⟨o, k o q, r⟩⟩
section
variable {X : Cx} {pins : List (Addr × Obj)} {σ : L2.St} {H : Hp} {s : Shared}
theorem _root_.L2.Inv.track {a : Addr} {oe : Obj} {cls : Value} {d : Option Addr} (I : Inv X ((a, oe) :: pins) σ H s) (hz : Zc cls d oe) (hf : ∃ vs, oe.data = .fields vs) (n0 : X.s_0.heap.get? a = none) (hp : ∀ p ∈ X.pn ++ pins, p.1 ≠ a) : Inv X pins σ (upd H a (exr a cls d)) s := by
  obtain ⟨ea, na, nL, nF, nc⟩ := I.pin (a, oe) (List.mem_append_right _ List.mem_cons_self)
  have ea : s.heap.get? a = some oe := ea
  have na : H a = none := na
  have ne0 : ∀ {b : Addr} {o : Obj}, X.s_0.heap.get? b = some o → b ≠ a := fun {b o} e z => by rw [z, n0] at e; cases e
  have neS : ∀ {b : Addr} {u : HO}, H b = some u → b ≠ a := fun {b u} e z => by rw [z, na] at e; cases e
  refine ⟨I.ok, I.os, I.bare, ⟨I.base.keep, I.base.slot, fun b o e n hx => ?_, I.base.there, fun b xs e => ?_, fun b o u e => ?_, fun b ps e => ?_⟩, I.loc, I.cell, ?_, fun x c e => ?_, fun p hp' => ?_, fun b u e => ?_, I.len⟩
  · rw [upd_ne (ne0 e)]; exact I.base.free b o e n hx
  · have q := I.base.tups b xs e
    rw [upd_ne (neS q)]; exact q
  · have q := I.base.frzs b o u e
    rw [upd_ne (neS q)]; exact q
  · obtain ⟨m, q⟩ := I.base.tbls b ps e
    exact ⟨m, by rw [upd_ne (neS q)]; exact q⟩
  · rw [upd_ne (Ne.symm nL)]; exact I.free
  · obtain ⟨v, o, ho, hd⟩ := I.cell x c e
    have : c ≠ a := fun z => by
      rw [z, ea] at ho
      cases ho
      exact nc _ hd
    rw [upd_ne this]; exact I.freeC x c e
  · obtain ⟨e1, n1, n2, n3, n4⟩ := I.pin p (by
      rcases List.mem_append.mp hp' with h | h
      · exact List.mem_append_left _ h
      · exact List.mem_append_right _ (List.mem_cons_of_mem _ h))
    exact ⟨e1, by rw [upd_ne (hp p hp')]; exact n1, n2, n3, n4⟩
  · by_cases hb : b = a
    · subst hb
      rw [upd_same] at e
      cases e
      exact exr_ok ea hz hf
    · rw [upd_ne hb] at e
      exact (I.hok b u e).stay (fun c v _ q => q) (fun c q => by rw [upd_ne (neS q)]; exact q) fun c xs q => by rw [upd_ne (neS q)]; exact q
end
section
variable {X : Cx} {x n : Str} {c : Value} {i : Nat} {body : List Stmt} {np pos pos' p2 p3 : Pos} {tb : WX → TS}
/-- try: body, except x as n: return n -/
theorem ps_try_retE (hs : X.stack = X.env :: X.outer) (hf : X.env.frame = some X.env.locals) (hN : X.N.Nodup) (hi : X.N[i]? = some n) (hln : X.env.kindOf n = some .local) (hc : Names X x c) (hx : X.ex = []) (hv : Vis X.env.scope n) (hd : (n == ("__debug__" : Str)) = false) (hcd : (n == ("__classdict__" : Str)) = false)
    (hb : ∀ (W : WX) (pn : List (Addr × Obj)) (xe : Value → Shared → Prop), L2N.Takes (X.tr pn xe) W → PassesOwn (model X.prog X.w) X.A X.env xe → PSs (X.tr pn xe) body (tb W)) :
    PS X (.Try body [.ExceptHandler (some (.Name x np)) (some n) [.Return (some (.Name n p2)) p3] pos'] [] [] pos) (fun D σ H => tb (fun cls d _ H' => PySem.W.exmOne X.K cls c = some true ∧ ∀ a, H' a = none → D.rt (.ref a) (upd H' a (exr a cls d))) D σ H) := by
  refine ⟨fun pins s σ H D I h => ?_⟩
  have ok := I.ok
  have hfr : X.A.frames = some (X.env :: X.outer) := by rw [ok.frames, hs]
  have hloc : Loc X.env.scope n := .inl hln
  have caught : L2N.Takes (X.tr (X.pn ++ pins) fun e s₁ => wpAny (model X.prog X.w) X.A (noteFrame e X.env) (fun _ s₂ => wpAny (model X.prog X.w) X.A (setFlight e none) (fun _ s₃ =>
      wpAny (model X.prog X.w) X.A (handleBy e X.env [.ExceptHandler (some (.Name x np)) (some n) [.Return (some (.Name n p2)) p3] pos']) (SP X pins D) X.xe s₃) X.xe s₂) X.xe s₁) (fun cls d _ H' => PySem.W.exmOne X.K cls c = some true ∧ ∀ a, H' a = none → D.rt (.ref a) (upd H' a (exr a cls d))) := by
    rintro u s' ⟨a, B, sI, pins', σ', H', cls, d, rfl, J', nb, up, sky, na, os, ag, wsh⟩
    have J : Inv X pins σ' H' sI := J'.ofTry ok
    have hBa : B.get? a = none := by
      rcases sky with ⟨_, h1, _⟩ | ⟨_, h1, _⟩ | ⟨_, h1, _⟩ <;> exact h1
    show wpAny (model X.prog X.w) X.A (noteFrame (.ref a) X.env) _ _ _
    refine L2N.Sky.land L2N.Zn.steady hfr hf (show Sky B (X.env :: X.outer) a (L2N.Zn cls d) X.env.locals s'.heap by rw [← hs]; exact sky) fun h3 fl3 up3 => ?_
    have J3 : Inv X pins σ' H' { s' with heap := h3 } := J.landed nb fl3.1 (up.trans up3) os ag
    obtain ⟨oe3, vs3, he3, hz3, hd3⟩ := fl3.there
    have nfr : a ∉ frs (X.env :: X.outer) := fun hm => by
      obtain ⟨_, o', e', hnf⟩ := fl3.2.2.1.mem hm
      rw [he3] at e'; cases e'
      exact hnf _ hd3
    have nL : a ≠ X.env.locals := fun z => nfr (List.mem_filterMap.mpr ⟨X.env, List.mem_cons_self, by rw [hf, z]⟩)
    have nF : a ∉ X.fs := fun hm => by
      obtain ⟨e, he, q⟩ := List.mem_filterMap.mp hm
      exact nfr (List.mem_filterMap.mpr ⟨e, List.mem_cons_of_mem _ he, q⟩)
    have nI : sI.heap.get? a = none := by
      cases e : sI.heap.get? a with
      | none => rfl
      | some o =>
        have := nb a o e (by rw [hs]; exact nfr)
        rw [hBa] at this; cases this
    have n0 : X.s_0.heap.get? a = none := by
      cases e : X.s_0.heap.get? a with
      | none => rfl
      | some o =>
        obtain ⟨o', q⟩ := J.base.there a o e (by rw [hx]; exact fun z => nomatch z)
        rw [nI] at q; cases q
    have hpa : ∀ p ∈ X.pn ++ pins, p.1 ≠ a := fun p hp z => by
      have := (J.pin p hp).1
      rw [z, nI] at this; cases this
    have LT : PySem.W.Looks (model X.prog X.w) h3 (typeOf (.ref a)) cls := fun A Q E s k q => wpAny_typeOf_ref (k _ _ he3) (by rw [hz3.1]; exact q)
    obtain ⟨hb1, hq⟩ := wsh
    have S3 := J3.suite he3 hd3 na nL nF
    refine wpAny_handleBy_cons (codeAny_handlers_test ?_) (by intro q; cases q)
    have LM := PySem.W.exm_one (M := model X.prog X.w) (J3.kIn) LT hb1
    have test : ∀ {Q : Value → Shared → Prop} {E : Value → Shared → Prop}, Q c { s' with heap := h3 } → wpAny (model X.prog X.w) (X.A.mark (some (.ref a))) (eval (.Name x np) X.env) Q E { s' with heap := h3 } := fun {Q E} q => by
      obtain ⟨hg, hdbg, hm | ⟨hm, hv, hnn⟩⟩ := hc
      · exact ld_glob (X := X.suite a ((a, oe3) :: (X.pn ++ pins))) S3 hg hm q hdbg
      · exact ld_blt (X := X.suite a ((a, oe3) :: (X.pn ++ pins))) S3 hg hm hv q hnn hdbg
    refine test (LM.here ?_)
    refine codeAny_handlers_suite_as ?_
    refine HandSPX.lands_againZ fl3 fun h4 fl4 up4 => ?_
    have J4 : Inv X pins σ' H' { s' with heap := h4 } := J.landed nb fl4.1 ((up.trans up3).trans up4) os ag
    obtain ⟨oe4, vs4, he4, hz4, hd4⟩ := fl4.there
    have S4 := J4.suite he4 hd4 na nL nF
    refine store_ok (X := X.suite a ((a, oe4) :: (X.pn ++ pins))) (v := .ref a) S4 hN hi hloc rfl (fun s5 S5 => ?_) (.inr hln)
    refine wpAny_mono ((pss_one (ps_ret (X := X.suite a ((a, oe4) :: (X.pn ++ pins))) (pos := p3) (pe_var (i := i) (pos := p2) hi hv hd hcd))).run [] s5 _ H' { nx := fun _ _ => False, rt := fun v H6 => v = .ref a ∧ H6 = H', bk := fun _ _ => False, ct := fun _ _ => False } S5 ⟨.ref a, by rw [List.getElem?_set_self (by
      have := J.len
      have h2 := (List.getElem?_eq_some_iff.mp hi).1
      omega)], rfl, rfl⟩) (fun f s6 hsp => ?_) (fun _ _ z => False.elim z)
    cases f with
    | next => obtain ⟨_, _, _, q6⟩ := hsp; exact q6.elim
    | brk => obtain ⟨_, _, _, q6⟩ := hsp; exact q6.elim
    | cont => obtain ⟨_, _, _, q6⟩ := hsp; exact q6.elim
    | ret u =>
      obtain ⟨v6, σ6, H6, S6, r6, rfl, rfl⟩ := hsp
      have S6' : Inv X ((a, oe4) :: pins) σ6 H6 s6 := ⟨ok, S6.os, S6.bare, S6.base, S6.loc, S6.cell, S6.free, S6.freeC, fun p hp => S6.pin p (by
        rcases List.mem_append.mp hp with h | h
        · exact List.mem_append_left _ (List.mem_cons_of_mem _ (List.mem_append_left _ h))
        · rcases List.mem_cons.mp h with h | h
          · exact List.mem_append_left _ (by rw [h]; exact List.mem_cons_self)
          · exact List.mem_append_left _ (List.mem_cons_of_mem _ (List.mem_append_right _ h))), S6.hok, S6.len⟩
      exact gone_ok S6' hN hi hln fun s7 J7 => ⟨.ref a, _, _, J7.track hz4.zc ⟨_, hd4⟩ n0 hpa, r6, hq a na⟩
  refine wpAny_Try_except (wpAny_mono ((hb _ _ _ caught PassesOwn.looking).run [] s σ H D (I.toTry _) h) (fun f s1 hsp => ?_) fun e s1 he => he)
  cases f with
  | next => obtain ⟨σ', H', J', q⟩ := hsp; exact wpAny_execs_nil ⟨σ', H', J'.ofTry ok, q⟩
  | brk => obtain ⟨σ', H', J', q⟩ := hsp; exact ⟨σ', H', J'.ofTry ok, q⟩
  | cont => obtain ⟨σ', H', J', q⟩ := hsp; exact ⟨σ', H', J'.ofTry ok, q⟩
  | ret u => obtain ⟨v, σ', H', J', r, q⟩ := hsp; exact ⟨v, σ', H', J'.ofTry ok, r, q⟩
end
end HD
set_option Elab.async false
set_option linter.all false
set_option maxRecDepth 100000
set_option maxHeartbeats 2000000
namespace HD
open PySem PySem.Spec PyProof.Rows L2 L2H HotX LamX DL
variable [TabCtx]
/-- what met makes of the lambda's reading -/
def TMet (K : PySem.W.Frag) (SE : Addr) : (XK → Hp → VK → Prop) → Hp → VK → Prop := fun tl H Q =>
  ∀ Q', tl (fun cls d H' => PySem.W.exmOne K cls (.ref SE) = some true ∧ ∀ a, H' a = none → Q (.ref a) (upd H' a (exr a cls d))) H Q'
section
variable {X : Cx}
theorem met_N {sg : Scope} {g SE : Addr} {cdg : Value} {q : Str} {ne : Expr} {p1 p2 p3 p7 p9 p11 p12 p13 p14 : Pos}
    (hgs : sg.names.lookup ("SongError" : Str) = some .globalImplicit) (hle : sg.names.lookup ("e" : Str) = some .local) (hms : X.mg "SongError" = some (.ref SE)) (hne : ∀ Y : Cx, PE Y ne (fun σ H Q => Q .non H)) :
    GivesN X ["deed", "e"] "_law_met" sg g cdg [.Try [.Expr (.Call (.Name "deed" p1) [] [] p2) p3] [.ExceptHandler (some (.Name "SongError" p7)) (some "e") [.Return (some (.Name "e" p9)) p11] p12] [] [] p13, .Return (some ne) p14] "deed" q (TMet X.K SE) := by
  intro k fl c' s H Q tl hr act hc h
  refine ⟨_, pss_cons (ps_try_retE (X := (cxOf C8.CX0 X.prog X.w X.K X.mg X.base ["deed", "e"] "_law_met" sg g cdg X.A X.stack s H C8.E0).nox) (n := "e") (i := 1) (c := .ref SE)
      (tb := fun W D σ H => ∃ Ech : XK, (∀ cls d σ' H', Ech cls d H' → W cls d σ' H') ∧ σ[0]? = some (some (.ref fl)) ∧ H c' = some (CodeO c' q) ∧ ∀ Q', tl Ech H Q')
      rfl rfl (show (["deed", "e"] : List Str).Nodup by decide) rfl hle ⟨hgs, by decide, .inl hms⟩ rfl (.inl hle) (by decide) (by decide) (fun W pn xe tk _ => ?_)) (pss_one (ps_ret (hne _))), ?_⟩
  · refine ⟨fun pins s' σ H' D I h' => ?_⟩
    obtain ⟨Ech, hW, h1, h2, h3⟩ := h'
    refine (pss_one (ps_expr (act W pn xe Ech p1 p2 tk hW))).run pins s' σ H' D I ⟨h1, h2, h3 _⟩
  · exact ⟨_, fun cls d σ' H' hE => hE, rfl, hc, h⟩
end
/-- _law_met(lambda: e), e refused: what is wished of the refusal, by its class and dict -/
def tMet (K : KW) (fb : M PyData) (F : Fr) : TE := fun σ H Q => ∃ V ρ c, EnvR K F H V σ ρ ∧ fb (HD.forget ρ) = .exc c ∧ PySem.W.exmOne K.k (.ref (He.ga K.k c)) (.ref (He.ga K.k "SongError")) = some true ∧ ∀ a H' V', Ext H V H' V' → H' a = none → Q (.ref a) (upd H' a (exr a (.ref (He.ga K.k c)) none))
section
variable {X : Cx} {F : Fr}
theorem pe_met {x : Str} {fdt : FuncData} {pg : Arguments} {bg : List Stmt} {sg : Scope} {params : Arguments} {body : Expr} {scope : Scope} {fb : M PyData} {k : Nat} {c P : Addr} {p lpos pos : Pos}
    (D : FunD X.K "_law_met" "_law_met" pg bg sg [] [] (He.ga X.K "_law_met") fdt) (hm : X.mg "_law_met" = some (.ref (He.ga X.K "_law_met"))) (hbd : ∀ (kV doc pm : Value) (an : Option Addr) (cdv ct : Value) (us : List Value), us.length = (["deed"] : List Str).length → bindArgs (PySem.W.fnOf "_law_met" "_law_met" pg bg sg .none kV doc pm an cdv ct) ⟨us, []⟩ = pure ((["deed"] : List Str).zip us))
    (Sg : FnScope ["deed", "e"] ["deed"] sg) (hva : Vis sg "deed") (hG : ∀ cdv, GivesN X ["deed", "e"] "_law_met" sg (He.ga X.K "_law_met") cdv bg "deed" (x ++ ".<locals>." ++ "<lambda>") (TMet X.K (He.ga X.K "SongError")))
    (LA : LamAt X.K X.mg X.base x X.env.code c P) (hq : X.env.qual = x ++ ".<locals>.") (hr : Room (k + 2) X.A) (L : LamS X.env.scope scope)
    (hb : ∀ (A : Around) (outer : List Env) (s : Shared) (H : Hp) (E : XK) (f c' : Addr) (H' V : Hp), Room k (A.deeper (lamEnv X scope s.heap.objs.size f c')) → PM (lamN X A outer s H E scope f c') (mkF H' V E) body fb)
    (hg : Gl X "_law_met" := by rfl) (hdef : defaultsOf params X.env = ([], []) := by rfl)
    (hbind : ∀ (q : Str) (cl : List (Str × Addr)) (pm cv ctv : Value), bindArgs (PySem.W.kla_fn "<lambda>" q params body scope cl pm cv ctv) ⟨[], []⟩ = pure [] := by intros; rfl) :
    PE X (.Call (.Name "_law_met" p) [.Lambda params body scope lpos] [] pos) (tMet X.kw fb F) := by
  have hbb := D.bindsN (ps := ["deed"]) hbd
  obtain ⟨oc, od, dV, kV, doc, pm, an, cdv, ct, osl, rfl, lk, hcd, _, _⟩ := D.ex
  refine DL.PE.imp (lamcall_N (t := fun E σ H' Q => ∃ V, tM X.kw (mkF H' V E) fb σ H' Q) (TT := TMet X.K (He.ga X.K "SongError")) hg hm D.kp lk hcd hbb Sg rfl hva (by rw [hq]; exact hG cdv) LA.tab LA.code (by rw [hq]; exact LA.mem) (by rw [hq]; exact LA.uniq) hr L hdef hbind ?_) fun σ H Q ⟨V, ρ, cc, E, ef, hx, g⟩ => ?_
  · intro A outer s H E f c' hr'
    exact ⟨fun pins s1 σ H1 Q I ⟨V, h⟩ => (hb A outer s H E f c' H1 V hr').run pins s1 σ H1 Q I h⟩
  · refine ⟨E.tabs.1, fun H1 ex => ?_⟩
    have e1 := ex V E.sub (E.tabs.2 _ LA.mem)
    have E1 := E.grow e1
    refine fun Q' => ⟨V, V, HD.forget ρ, EnvR.forget E1, ?_⟩
    show Goal X.kw (mkF H1 V _) σ (HD.forget ρ) H1 V (Rep X.kw) (fb (HD.forget ρ)) Q'
    rw [ef]
    intro H' V' x'
    exact ⟨hx, fun a na => g a H' V' (e1.trans x') na⟩
end
/-- the same of a def that may clash -/
def tMetX (K : KW) (m : List PyData → RX) (fs : M (List PyData)) (F : Fr) : TE := fun σ H Q => ∃ V ρ ds ρ' dat, EnvR K F H V σ ρ ∧ fs (HD.forget ρ) = .ok (ds, ρ') ∧ m ds = .cl dat ∧ PySem.W.exmOne K.k (.ref (aCl K.k)) (.ref (He.ga K.k "SongError")) = some true ∧
  ∀ a H' V' dd fs' y, Ext H V H' V' → H' dd = some (.xd fs') → fs'.lookup ("beats" : Str) = some y → Rep K V' y dat → H' a = none → Q (.ref a) (upd H' a (exr a (.ref (aCl K.k)) (some dd)))
section
variable {X : Cx} {F : Fr}
theorem pe_metX {x z : Str} {fdt : FuncData} {pg : Arguments} {bg : List Stmt} {sg : Scope} {params : Arguments} {e : Expr} {es : List Expr} {scope : Scope} {fs : M (List PyData)} {lvl k : Nat} {ps : List Str} {m : List PyData → RX} {c P : Addr} {p lpos pos p1 p2 : Pos}
    (G : FnX X.prog X.w X.K X.mg X.base lvl z ps m)
    (D : FunD X.K "_law_met" "_law_met" pg bg sg [] [] (He.ga X.K "_law_met") fdt) (hm : X.mg "_law_met" = some (.ref (He.ga X.K "_law_met"))) (hbd : ∀ (kV doc pm : Value) (an : Option Addr) (cdv ct : Value) (us : List Value), us.length = (["deed"] : List Str).length → bindArgs (PySem.W.fnOf "_law_met" "_law_met" pg bg sg .none kV doc pm an cdv ct) ⟨us, []⟩ = pure ((["deed"] : List Str).zip us))
    (Sg : FnScope ["deed", "e"] ["deed"] sg) (hva : Vis sg "deed") (hG : ∀ cdv, GivesN X ["deed", "e"] "_law_met" sg (He.ga X.K "_law_met") cdv bg "deed" (x ++ ".<locals>." ++ "<lambda>") (TMet X.K (He.ga X.K "SongError")))
    (LA : LamAt X.K X.mg X.base x X.env.code c P) (hq : X.env.qual = x ++ ".<locals>.") (hr : Room (k + 2) X.A) (hle : lvl ≤ k) (L : LamS X.env.scope scope)
    (hb : ∀ (A : Around) (outer : List Env) (s : Shared) (H : Hp) (E : XK) (f c' : Addr) (H' V : Hp), Room k (A.deeper (lamEnv X scope s.heap.objs.size f c')) → PMA (lamN X A outer s H E scope f c') (mkF H' V E) (e :: es) fs)
    (hgz : ∀ (A : Around) (outer : List Env) (s : Shared) (H : Hp) (E : XK) (f c' : Addr), Gl (lamN X A outer s H E scope f c') z := by intros; rfl)
    (hdz : (z == ("__debug__" : Str)) = false := by decide) (hez : ∀ (A : Around) (outer : List Env) (s : Shared) (H : Hp) (E : XK) (f c' : Addr), starEach (e :: es) (lamN X A outer s H E scope f c').env = (false, eval e (lamN X A outer s H E scope f c').env) :: starEach es (lamN X A outer s H E scope f c').env := by intros; rfl)
    (hplz : ∀ (A : Around) (outer : List Env) (s : Shared) (H : Hp) (E : XK) (f c' : Addr), (backTo p2 (starEach es (lamN X A outer s H E scope f c').env)).any (·.1) = false := by intros; rfl)
    (hg : Gl X "_law_met" := by rfl) (hdef : defaultsOf params X.env = ([], []) := by rfl)
    (hbind : ∀ (q : Str) (cl : List (Str × Addr)) (pm cv ctv : Value), bindArgs (PySem.W.kla_fn "<lambda>" q params (.Call (.Name z p1) (e :: es) [] p2) scope cl pm cv ctv) ⟨[], []⟩ = pure [] := by intros; rfl) :
    PE X (.Call (.Name "_law_met" p) [.Lambda params (.Call (.Name z p1) (e :: es) [] p2) scope lpos] [] pos) (tMetX X.kw m fs F) := by
  have hbb := D.bindsN (ps := ["deed"]) hbd
  obtain ⟨oc, od, dV, kV, doc, pm, an, cdv, ct, osl, rfl, lk, hcd, _, _⟩ := D.ex
  obtain ⟨fd, G1, G2, G3, G4, G5⟩ := G
  refine DL.PE.imp (lamcall_N (t := fun E σ H' Q => ∃ V, tMA X.kw (mkF H' V E) fs σ H' fun vs H1 => spX X.kw ps.length m vs H1 Q E) (TT := TMet X.K (He.ga X.K "SongError")) hg hm D.kp lk hcd hbb Sg rfl hva (by rw [hq]; exact hG cdv) LA.tab LA.code (by rw [hq]; exact LA.mem) (by rw [hq]; exact LA.uniq) hr L hdef hbind ?_) fun σ H Q ⟨V, ρ, ds, ρ', dat, E, ef, em, hx, g⟩ => ?_
  · intro A outer s H E f c' hr'
    refine ⟨fun pins s1 σ H1 Q I ⟨V, h⟩ => ?_⟩
    exact (pe_callS (X := lamN X A outer s H E scope f c') G1 (hr'.mono hle) (hgz A outer s H E f c') G4 G3 G2 (fun σ => L2N.passAt tkx_lam σ) (hb A outer s H E f c' H1 V hr') hdz (hez A outer s H E f c') (hplz A outer s H E f c')).run pins s1 σ H1 Q I h
  · refine ⟨E.tabs.1, fun H1 ex => ?_⟩
    have e1 := ex V E.sub (E.tabs.2 _ LA.mem)
    have E1 := E.grow e1
    refine fun Q' => ⟨V, V, HD.forget ρ, EnvR.forget E1, ?_⟩
    rw [ef]
    intro vs H2 V2 st r
    have x1 := e1.trans st.env.ext
    refine ⟨by rw [r.length]; exact G5 ds (by rw [em]; exact fun z => nomatch z), V2, ds, (E.grow x1).tabs, x1.s, r, ?_⟩
    rw [em]
    intro H' V' dd fs' y x' hd hl ry
    exact ⟨hx, fun a na => g a H' V' dd fs' y (x1.trans x') hd hl ry na⟩
end
end HD
set_option Elab.async false
set_option linter.all false
set_option maxRecDepth 100000
set_option maxHeartbeats 2000000
namespace HD
open PySem PySem.Spec PyProof.Rows L2 L2H HotX LamX DL
theorem call_isT {X : Cx} {D a : Addr} {d : Option Addr} (C : ExcC X.K D) : CallR X (.builtin "isinstance") (fun xs H Q => H a = some (exr a (.ref D) d) ∧ (∀ dd, d = some dd → ∃ fs, H dd = some (.xd fs)) ∧ rIsE X.K D a xs H Q) := by
  intro pins s σ H xs us Q I r h
  obtain ⟨ha, hd, c, cv, b, rfl, hcv, e, q⟩ := h
  cases r with
  | cons rx rr =>
    cases rr with
    | cons rt rr =>
      cases rr
      cases rx
      have ec := hcv _ rt
      subst ec
      obtain ⟨⟨oe, hget, hz, vs, hv⟩, _, _⟩ := I.hok a _ ha
      cases d with
      | none =>
        have J : PySem.W.InstAt s.heap a oe D none := by
          obtain ⟨oc, od, oda, osl⟩ := oe
          obtain ⟨h1, h2⟩ := hz
          dsimp only at h1 h2 hv
          subst h1 h2 hv
          exact ⟨hget, rfl, rfl, trivial⟩
        exact PySem.W.kia_one (PySem.W.handS_kitx_exc C.hg C.hk C.hs C.hd C.ha C.hn C.ht C.hm) I.kIn J e (fun z => nomatch z) fun tk => ⟨.bl b, H, I.kept (t' := tk) fun _ _ z => z, rfl, q⟩
      | some dd =>
        obtain ⟨fs, hdd⟩ := hd dd rfl
        have hx : ObjOk X.prog X.w H s.heap dd (.xd fs) := I.hok dd _ hdd
        obtain ⟨mA, hns, _⟩ := hx
        obtain ⟨od, ho, _⟩ := lookIn_ns hns
        have J : PySem.W.InstAt s.heap a oe D (some od) := by
          obtain ⟨oc, od2, oda, osl⟩ := oe
          obtain ⟨h1, h2⟩ := hz
          dsimp only at h1 h2 hv
          subst h1 h2 hv
          exact ⟨hget, rfl, rfl, ho⟩
        exact PySem.W.kia_one (PySem.W.kitx_exc (clsIn_of C.hd) C.hg C.hk C.hs C.ha C.hn C.ht C.hm) I.kIn J e (fun z => nomatch z) fun tk => ⟨.bl b, H, I.kept (t' := tk) fun _ _ z => z, rfl, q⟩
/-- a refusal's field -/
def tXfT (K : PySem.W.Frag) (C : Addr) (f : Str) (te : TE) : TE := fun σ H Q => te σ H fun x H1 => ∃ (a dd : Addr) (fs : List (Str × V)) (v : V), x = .ref a ∧ H1 a = some (exr a (.ref C) (some dd)) ∧ H1 dd = some (.xd fs) ∧ fs.lookup f = some v ∧ Q v H1
theorem pe_xfT {X : Cx} {C : Addr} {e : Expr} {te : TE} {pos : Pos} {n : Str} (T : XfC X.K C) (hno : PySem.W.findIn X.K (.ref C) n = some none) (he : PE X e te) (hb : attributeBase e n X.env (eval e X.env) = eval e X.env := by rfl) :
    PE X (.Attribute e n pos) (tXfT X.K C n te) := by
  refine ⟨fun pins s σ H Q I h => ?_⟩
  refine attr_of hb (thn (he.run pins s σ H _ I h) fun u s1 hh => ?_)
  obtain ⟨x, H1, I1, rx, a, dd, fs, v, ex, ea, edd, l, q⟩ := hh
  subst ex
  obtain rfl : u = Value.ref a := rx
  obtain ⟨⟨oe, ha, hz, vs, hd⟩, _, _⟩ := I1.hok a _ ea
  have hx : ObjOk X.prog X.w H1 s1.heap dd (.xd fs) := I1.hok dd _ edd
  obtain ⟨mA, hns, hr⟩ := hx
  obtain ⟨od, ho, hl⟩ := lookIn_ns hns
  obtain ⟨u, hu, ru⟩ := RelO.some_of (v := v) (o := mA n) (by rw [← l]; exact hr n)
  have J : PySem.W.InstAt s1.heap a oe C (some od) := ⟨ha, hz.1, by unfold PySem.W.notCls; rw [hd] <;> rfl, by rw [hz.2]; exact ho⟩
  exact HandSPX.exc_get I1.kIn J T.ga T.gg T.exC (PySem.W.findObj_own T.hdC hno rfl (by rw [hl, hu])) (handed_of ru) ⟨v, H1, I1.tok _, ru, q⟩
variable [TabCtx]
section
variable {X : Cx} {F : Fr} {p1 p2 p3 pos : Pos}
theorem pm_isT {a D C : Addr} {d : Option Addr} {c : Str} {b : Bool} (EC : ExcC X.K D) (h0 : F.H0 a = some (exr a (.ref D) d)) (hd : ∀ dd, d = some dd → ∃ fs, F.H0 dd = some (.xd fs)) (hL : F.lent = some a) (hmi : X.mg "isinstance" = none) (hmc : X.mg c = some (.ref C)) (hk : PySem.W.kitOne X.K (.ref D) (.ref C) = some b)
    (hls : F.ls = 0 := by rfl) (hN : X.N[0]? = some ("e" : Str) := by rfl) (hv : Vis X.env.scope "e" := by exact Or.inl rfl) (hgi : Gl X "isinstance" := by rfl) (hgc : Gl X c := by rfl) (hdb : (c == ("__debug__" : Str)) = false := by decide)
    (he : starEach [.Name "e" p2, .Name c p3] X.env = (false, eval (.Name "e" p2) X.env) :: starEach [.Name c p3] X.env := by rfl) (he2 : starEach [.Name c p3] X.env = (false, eval (.Name c p3) X.env) :: starEach [] X.env := by rfl) (hpl : (backTo pos (starEach [.Name c p3] X.env)).any (·.1) = false := by rfl) :
    PM X F (.Call (.Name "isinstance" p1) [.Name "e" p2, .Name c p3] [] pos) (cD (.bool b)) := by
  refine DL.PE.imp (pe_callB (call_isT (a := a) (d := d) EC) hgi hmi (by decide +kernel) (pa_cons (pe_var (i := 0) hN hv (by decide) (by decide)) (pa_cons (pe_glob (v := .ref C) hgc hmc rfl hdb) pa_nil he2) he) (by decide) (by decide) he hpl) fun σ H Q ⟨V, ρ, E, g⟩ => ?_
  refine ⟨.ref a, hls ▸ E.lent _ hL, E.ext.h _ _ h0 (fun _ z => nomatch z), fun dd e => ?_, .ref C, .ref C, b, rfl, fun u hu => hu, hk, ?_⟩
  · obtain ⟨fs, h⟩ := hd dd e
    exact ⟨fs, E.ext.h _ _ h (fun _ z => nomatch z)⟩
  · exact g _ _ _ E.refl (.bl b)
theorem pm_isTB {a D : Addr} {d : Option Addr} {c t : Str} {T : String} {b : Bool} (EC : ExcC X.K D) (h0 : F.H0 a = some (exr a (.ref D) d)) (hd : ∀ dd, d = some dd → ∃ fs, F.H0 dd = some (.xd fs)) (hL : F.lent = some a) (hmi : X.mg "isinstance" = none) (hmc : X.mg c = none) (hbt : bootBuiltins c = some (.type T)) (hk : PySem.W.kitOne X.K (.ref D) (.type T) = some b)
    (hls : F.ls = 0 := by rfl) (hN : X.N[0]? = some ("e" : Str) := by rfl) (hv : Vis X.env.scope "e" := by exact Or.inl rfl) (hgi : Gl X "isinstance" := by rfl) (hgc : Gl X c := by rfl) (hdb : (c == ("__debug__" : Str)) = false := by decide) (hnn : c ≠ "__name__" := by decide)
    (he : starEach [.Name "e" p2, .Name c p3] X.env = (false, eval (.Name "e" p2) X.env) :: starEach [.Name c p3] X.env := by rfl) (he2 : starEach [.Name c p3] X.env = (false, eval (.Name c p3) X.env) :: starEach [] X.env := by rfl) (hpl : (backTo pos (starEach [.Name c p3] X.env)).any (·.1) = false := by rfl) :
    PM X F (.Call (.Name "isinstance" p1) [.Name "e" p2, .Name c p3] [] pos) (cD (.bool b)) := by
  refine DL.PE.imp (pe_callB (call_isT (a := a) (d := d) EC) hgi hmi (by decide +kernel) (pa_cons (pe_var (i := 0) hN hv (by decide) (by decide)) (pa_cons (pe_bltn (v := .ty T) hgc hmc hbt rfl hnn hdb) pa_nil he2) he) (by decide) (by decide) he hpl) fun σ H Q ⟨V, ρ, E, g⟩ => ?_
  refine ⟨.ref a, hls ▸ E.lent _ hL, E.ext.h _ _ h0 (fun _ z => nomatch z), fun dd e => ?_, .ty T, .type T, b, rfl, fun u hu => hu, hk, ?_⟩
  · obtain ⟨fs, h⟩ := hd dd e
    exact ⟨fs, E.ext.h _ _ h (fun _ z => nomatch z)⟩
  · exact g _ _ _ E.refl (.bl b)
end
/-- the refusals in the law's order -/
def ten : List Str := ["BadChoir", "BadName", "BadStanding", "BadNumber", "BadRows", "BadLead", "BadWish", "Clash", "Nothing", "BadText"]
abbrev mkA (H V : Hp) (a : Addr) (E : XK) : Fr := ⟨H, V, some a, fun cls _ H' => E cls none H', 0, fun _ => False⟩
def spAlone (K : KW) : Sp := fun vs H Q _ => ∃ (a : Addr) (c : Str) (d : Option Addr) (i : Nat) (V : Hp), vs = [.ref a, .int (i : Nat)] ∧ ten[i]? = some c ∧ H a = some (exr a (.ref (He.ga K.k c)) d) ∧ (∀ dd, d = some dd → ∃ fs, H dd = some (.xd fs)) ∧ TabV H V ∧ Same V H ∧ ∀ v H' V', Ext H V H' V' → Rep K V' v (.bool true) → Q v H'
theorem env_alone {K : KW} {H V : Hp} {a : Addr} {E : XK} {i : Nat} {N : List Str} (hn : N.length = 4) (ht : TabV H V) (s : Same V H) : EnvR K (mkA H V a E) H V (L2.start N [.ref a, .int (i : Nat)]) [.no, .sh (.int (i : Nat)), .no, .no] := by
  have sh_ : ∀ {j : Nat} {t : Sl}, ([.no, .sh (.int (i : Nat)), .no, .no] : Rho)[j]? = some t → t = .no ∨ (j = 1 ∧ t = .sh (.int (i : Nat))) := fun {j t} h => by
    match j, h with
    | 0, h => cases h; exact .inl rfl
    | 1, h => cases h; exact .inr ⟨rfl, rfl⟩
    | 2, h => cases h; exact .inl rfl
    | 3, h => cases h; exact .inl rfl
    | j + 4, h => cases h
  refine ⟨by simp [L2.start, hn], Ext.refl s, fun j d h => ?_, fun j d h => ?_, fun j k b d e h => ?_, fun b h => ?_, ht, ObE.non fun j o h => by rcases sh_ h with z | ⟨_, z⟩ <;> cases z⟩
  · rcases sh_ h with z | ⟨rfl, z⟩
    · cases z
    · cases z; exact ⟨_, rfl, .int _⟩
  · rcases sh_ h with z | ⟨_, z⟩ <;> cases z
  · rcases sh_ h with z | ⟨_, z⟩ <;> cases z
  · cases h; rfl
section
variable {P : Program} {w : World} {K : PySem.W.Frag} {mg : Str → Option Value} {base : Heap} {params : Arguments} {body : List Stmt} {scope : Scope} {fd : FuncData} {x : Str}
theorem alone_mk {N : List Str} {k : Nat} {b : Str → SM} (D : FunD K x x params body scope [] [] (He.ga K x) fd) (S : FnScope N ["e", "own"] scope) (hn : N.length = 4)
    (hbd : ∀ (kV doc pm : Value) (an : Option Addr) (cdv ct : Value) (us : List Value), us.length = (["e", "own"] : List Str).length → bindArgs (PySem.W.fnOf x x params body scope .none kV doc pm an cdv ct) ⟨us, []⟩ = pure ((["e", "own"] : List Str).zip us))
    (hb : ∀ (c : Str) (d : Option Addr) (a : Addr) (cdv : Value) (A : Around) (outer : List Env) (s : Shared) (H V : Hp) (E : XK), c ∈ ten → H a = some (exr a (.ref (He.ga K c)) d) → (∀ dd, d = some dd → ∃ fs, H dd = some (.xd fs)) → Room k (A.deeper (envOfC x scope s.heap.objs.size (He.ga K x) cdv)) → PMSs (cxF P w K mg base N x scope cdv A outer s H E) (mkA H V a E) body (b c))
    (hv : ∀ (i : Nat) (c : Str), ten[i]? = some c → ∃ ρ', b c [.no, .sh (.int (i : Nat)), .no, .no] = .rt (.bool true) ρ') :
    FnOk P w K mg base (L2N.CX P w) (k + 1) (He.ga K x) fd ["e", "own"] (spAlone ⟨K, w⟩) ∧ Binds K fd ["e", "own"] [] := by
  refine ⟨D.ok (CX := L2N.CX P w) S (fun vs H Q E h => ?_) fun cdv A outer s H vs Q E hr h => ?_, D.bindsN hbd⟩
  · obtain ⟨a, c, d, i, V, rfl, _⟩ := h; rfl
  · obtain ⟨a, c, d, i, V, rfl, hc, ha, hd, ht, sv, q⟩ := h
    obtain ⟨ρ', e⟩ := hv i c hc
    refine ⟨_, hb c d a cdv A outer s H V E (List.mem_of_getElem? hc) ha hd hr, V, _, env_alone hn ht sv, ?_⟩
    show GoalS ⟨K, w⟩ (mkA H V a E) V (b c [.no, .sh (.int (i : Nat)), .no, .no]) _
    rw [e]
    exact fun v σ' H' V' E' _ r' => q v H' V' E'.ext r'
end
end HD
set_option Elab.async false
set_option linter.all false
set_option maxRecDepth 100000
set_option maxHeartbeats 2000000
namespace HD
open PySem PySem.Spec PyProof.Rows L2 L2H HotX LamX DL
/-- an exception held: its class; a Clash with its beats -/
def ExAt (K : KW) (H V : Hp) (a : Addr) (c : Str × Option PyData) : Prop := ∃ d, H a = some (exr a (.ref (He.ga K.k c.1)) d) ∧ match c.2 with
  | none => d = none
  | some dat => ∃ dd fs y, d = some dd ∧ H dd = some (.xd fs) ∧ fs.lookup ("beats" : Str) = some y ∧ Rep K V y dat
variable [TabCtx]
theorem ExAt.keep {K : KW} {H V H' V' : Hp} {a : Addr} {c : Str × Option PyData} (h : ExAt K H V a c) (k : ∀ b u, H b = some u → (∀ ps, u ≠ .tbl ps) → H' b = some u) (v : Same V V') : ExAt K H' V' a c := by
  obtain ⟨d, h1, h2⟩ := h
  refine ⟨d, k _ _ h1 (fun _ z => nomatch z), ?_⟩
  cases e : c.2 with
  | none => rw [e] at h2; exact h2
  | some dat =>
    rw [e] at h2
    obtain ⟨dd, fs, y, q1, q2, q3, q4⟩ := h2
    exact ⟨dd, fs, y, q1, k _ _ q2 (fun _ z => nomatch z), q3, q4.mono v⟩
structure MadeAt (K : KW) (F : Fr) (i : Nat) (cs : List (Str × Option PyData)) (σ : L2.St) (H : Hp) (ρ : Rho) (V : Hp) : Prop where
  E : EnvR K F H V σ ρ
  l : ∃ (L : Addr) (as : List Addr), σ[i]? = some (some (.ref L)) ∧ H L = some (.lst (as.map L2.V.ref)) ∧ V L = none ∧ F.H0 L = none ∧ ¬ IsOwn σ ρ L ∧ as.length = cs.length ∧ ∀ (k : Nat) (a : Addr) (c : Str × Option PyData), as[k]? = some a → cs[k]? = some c → ExAt K H V a c
theorem setNo {K : KW} {F : Fr} {σ : L2.St} {ρ : Rho} {H V : Hp} (E : EnvR K F H V σ ρ) {i : Nat} {v : L2.V} (hl : i ≠ F.ls ∨ F.lent = none) : EnvR K F H V (σ.set i (some v)) (ρ.set i .no) := by
  have at_ : ∀ {j : Nat} {t : Sl}, t ≠ .no → (ρ.set i .no)[j]? = some t → ρ[j]? = some t ∧ j ≠ i := fun {j t} ht h => by
    by_cases e : i = j
    · subst e
      by_cases hi : i < ρ.length
      · rw [List.getElem?_set_self hi] at h; cases h; exact absurd rfl ht
      · rw [List.getElem?_eq_none (by simpa using hi)] at h; cases h
    · rw [List.getElem?_set_ne e] at h; exact ⟨h, Ne.symm e⟩
  refine ⟨by simp [E.len], E.ext, fun j d h => ?_, fun j d h => ?_, fun a b c d e h1 h2 h3 h4 => ?_, fun a ha => ?_, E.tab, E.ob.set fun _ z => nomatch z⟩
  · obtain ⟨h1, h2⟩ := at_ (by simp) h
    rw [List.getElem?_set_ne (Ne.symm h2)]; exact E.sh j d h1
  · obtain ⟨h1, h2⟩ := at_ (by simp) h
    rw [List.getElem?_set_ne (Ne.symm h2)]; exact E.ow j d h1
  · obtain ⟨q1, q2⟩ := at_ (by simp) h1
    obtain ⟨q3, q4⟩ := at_ (by simp) h2
    rw [List.getElem?_set_ne (Ne.symm q2)] at h3
    rw [List.getElem?_set_ne (Ne.symm q4)] at h4
    exact E.dis a b c d e q1 q3 h3 h4
  · rcases hl with h | h
    · rw [List.getElem?_set_ne h]; exact E.lent a ha
    · rw [h] at ha; cases ha
/-- a refusal met -/
def tEx (K : KW) (F : Fr) (f : Rho → Option (Str × Option PyData)) : TE := fun σ H Q => ∃ V ρ c, EnvR K F H V σ ρ ∧ f ρ = some c ∧ ∀ a H' V' o, Ext H V H' V' → H' a = none → ExAt K (upd H' a o) V' a c → Q (.ref a) (upd H' a o)
def metE (fb : M PyData) : Rho → Option (Str × Option PyData) := fun ρ => match fb (HD.forget ρ) with
  | .exc c => if c ∈ excs then some (c, none) else none
  | _ => none
def metC (m : List PyData → RX) (fs : M (List PyData)) : Rho → Option (Str × Option PyData) := fun ρ => match fs (HD.forget ρ) with
  | .ok (ds, _) => (match m ds with
    | .cl d => some ("Clash", some d)
    | _ => none)
  | _ => none
theorem metE_some {fb : M PyData} {ρ : Rho} {c : Str × Option PyData} (h : metE fb ρ = some c) : ∃ cc, c = (cc, none) ∧ fb (HD.forget ρ) = .exc cc ∧ cc ∈ excs := by
  unfold metE at h
  cases e : fb (HD.forget ρ) with
  | ok p => rw [e] at h; cases h
  | bad => rw [e] at h; cases h
  | exc cc =>
    rw [e] at h
    have h : (if cc ∈ excs then some (cc, (none : Option PyData)) else none) = some c := h
    by_cases hc : cc ∈ excs
    · rw [if_pos hc] at h
      exact ⟨cc, (Option.some.inj h).symm, rfl, hc⟩
    · rw [if_neg hc] at h; cases h
theorem metC_some {m : List PyData → RX} {fs : M (List PyData)} {ρ : Rho} {c : Str × Option PyData} (h : metC m fs ρ = some c) : ∃ (ds : List PyData) (ρ' : Rho) (d : PyData), c = (("Clash" : Str), some d) ∧ fs (HD.forget ρ) = .ok (ds, ρ') ∧ m ds = .cl d := by
  unfold metC at h
  cases e : fs (HD.forget ρ) with
  | exc p => rw [e] at h; cases h
  | bad => rw [e] at h; cases h
  | ok p =>
    obtain ⟨ds, ρ'⟩ := p
    rw [e] at h
    dsimp only at h
    cases em : m ds with
    | cl d => rw [em] at h; exact ⟨ds, ρ', d, (Option.some.inj h).symm, rfl, em⟩
    | ok d => rw [em] at h; cases h
    | exc d => rw [em] at h; cases h
    | bad => rw [em] at h; cases h
section
variable {X : Cx} {F : Fr} {e : Expr}
theorem tEx_of {fb : M PyData} (EX : ExcT X.K) (h : PE X e (tMet X.kw fb F)) : PE X e (tEx X.kw F (metE fb)) := by
  refine DL.PE.imp h fun σ H Q ⟨V, ρ, c, E, ef, q⟩ => ?_
  obtain ⟨cc, rfl, h1, h2⟩ := metE_some ef
  exact ⟨V, ρ, cc, E, h1, (EX.m cc h2).2, fun a H' V' x na => q a H' V' _ x na ⟨none, upd_same, rfl⟩⟩
theorem tEx_ofX {m : List PyData → RX} {fs : M (List PyData)} (CK : ClK X.K) (h : PE X e (tMetX X.kw m fs F)) : PE X e (tEx X.kw F (metC m fs)) := by
  refine DL.PE.imp h fun σ H Q ⟨V, ρ, c, E, ef, q⟩ => ?_
  obtain ⟨ds, ρ', d, rfl, h1, h2⟩ := metC_some ef
  refine ⟨V, ρ, ds, ρ', d, E, h1, h2, CK.m.2, fun a H' V' dd fs' y x hdd hl hy na => q a H' V' _ x na ⟨some dd, upd_same, dd, fs', y, rfl, ?_, hl, hy⟩⟩
  rw [upd_ne (fun z => by rw [z, na] at hdd; cases hdd)]
  exact hdd
end
section
variable {X : Cx} {F : Fr} {e : Expr} {y : Str} {f : Rho → Option (Str × Option PyData)} {py lp pos apos cpos px : Pos}
/-- made = [met] -/
def tMade0 (K : KW) (F : Fr) (i : Nat) (f : Rho → Option (Str × Option PyData)) : TS := fun D σ H => ∃ V ρ c, EnvR K F H V σ ρ ∧ i < ρ.length ∧ f ρ = some c ∧ ∀ σ' H' V', MadeAt K F i [c] σ' H' (ρ.set i .no) V' → Same V V' → D.nx σ' H'
theorem ps_made0 (i : Nat) (he : PE X e (tEx X.kw F f)) (hN : X.N.Nodup) (hi : X.N[i]? = some y) (hx : Loc X.env.scope y) (hl : i ≠ F.ls ∨ F.lent = none) (hse : starEach [e] X.env = (false, eval e X.env) :: starEach [] X.env := by rfl)
    (hs : swapsWith (.List [e] lp) (some (.Name y py)) pos.line X.env = pure false := by rfl) (hf : X.fn y = true ∨ X.env.scope.names.lookup y = some .local := by first | exact .inl rfl | exact .inr rfl | assumption) :
    PS X (.Assign [.Name y py] (.List [e] lp) pos) (tMade0 X.kw F i f) := by
  refine DL.PS.imp (ps_set hN hi hx (pe_lst (pa_cons he pa_nil hse)) hs hf) fun D σ H ⟨V, ρ, c, E, hil, ef, q⟩ => ?_
  refine ⟨V, ρ, c, E, ef, fun a H' V' o x na hx' => ⟨by rw [sizeLine_eq]; exact (by decide : 1 ≤ 16777216), fun L nL => ?_⟩⟩
  have E1 := E.grow x
  have nA : L ≠ a := fun z => by rw [z, upd_same] at nL; cases nL
  have nL0 : H' L = none := by rw [upd_ne nA] at nL; exact nL
  have hva : V' a = none := by
    cases ev : V' a with
    | none => rfl
    | some u => have := x.s _ _ ev; rw [na] at this; cases this
  have hvL : V' L = none := by
    cases ev : V' L with
    | none => rfl
    | some u => have := x.s _ _ ev; rw [nL0] at this; cases this
  have hn : ∀ {b : Addr}, H' b = none → F.H0 b = none ∧ ¬ IsOwn σ ρ b := fun {b} hb => ⟨E1.ext.free hb, fun z => by
    obtain ⟨_, _, u, hu, _⟩ := E1.own_at z
    rw [hb] at hu; cases hu⟩
  have E2 := E1.beside (p := a) (o := o) (fun x hx => by rw [na] at hx; cases hx) hva (hn na).1 (hn na).2
  have E3 := E2.beside (p := L) (o := .lst [.ref a]) (fun x hx => by rw [nL] at hx; cases hx) hvL (hn nL0).1 (hn nL0).2
  refine q (σ.set i (some (.ref L))) _ V' ⟨setNo E3 hl, L, [a], ?_, upd_same, hvL, (hn nL0).1, ?_, rfl, fun k b c' h1 h2 => ?_⟩ x.v
  · exact List.getElem?_set_self (by rw [E.len]; exact hil)
  · rintro ⟨j, d, h1, h2⟩
    by_cases hj : i = j
    · subst hj
      rw [List.getElem?_set_self hil] at h1; cases h1
    · rw [List.getElem?_set_ne hj] at h1 h2
      exact (hn nL0).2 ⟨j, d, h1, h2⟩
  · match k, h1, h2 with
    | 0, h1, h2 =>
      cases h1; cases h2
      exact hx'.keep (fun b u hb _ => by rw [upd_ne (fun z => by rw [z, nL] at hb; cases hb)]; exact hb) (Same.refl _)
    | k + 1, h1, h2 => cases h1
/-- made.append(met) -/
def tMadeA (K : KW) (F : Fr) (i : Nat) (f : Rho → Option (Str × Option PyData)) : TS := fun D σ H => ∃ V ρ cs c, MadeAt K F i cs σ H ρ V ∧ cs.length ≤ 100 ∧ f ρ = some c ∧ ∀ H' V', MadeAt K F i (cs ++ [c]) σ H' ρ V' → Same V V' → D.nx σ H'
theorem ps_madeA (i : Nat) (he : PE X e (tEx X.kw F f)) (hN : X.N[i]? = some y := by rfl) (hv : Vis X.env.scope y := by first | exact Or.inl rfl | exact Or.inr (Or.inl rfl) | exact Or.inr (Or.inr rfl)) (hd : (y == ("__debug__" : Str)) = false := by decide) (hcd : (y == ("__classdict__" : Str)) = false := by decide)
    (hbase : attributeBase (.Name y px) "append" X.env (eval (.Name y px) X.env) = eval (.Name y px) X.env := by rfl)
    (hfew : ((backTo cpos (starEach [e] X.env)).all (fun x => !x.1) && (backToKw cpos (keywordEach [] X.env)).all (fun x => x.1.isSome) && decide ([e].length + ([] : List Keyword).length + (if ([] : List Keyword).isEmpty then 0 else 1) < 30)) = true := by rfl)
    (hline : (apos.endLine == cpos.line) = true := by rfl) (hs : starEach [e] X.env = (false, eval e X.env) :: starEach [] X.env := by rfl) (hplain : (backTo cpos (starEach [] X.env)).any (·.1) = false := by rfl)
    (hsw : swapsWith (.Call (.Attribute (.Name y px) "append" apos) [e] [] cpos) none pos.line X.env = pure false := by rfl) :
    PS X (.Expr (.Call (.Attribute (.Name y px) "append" apos) [e] [] cpos) pos) (tMadeA X.kw F i f) := by
  refine DL.PS.imp (ps_expr (pe_bm PySem.F.plainAttrs_list PySem.F.slot_list_append PySem.F.type_list_append mt_append (pe_var hN hv hd hcd) (pa_cons he pa_nil hs) hbase hfew hline hs hplain) hsw) fun D σ H ⟨V, ρ, cs, c, M, hcl, ef, q⟩ => ?_
  obtain ⟨E, L, as, h1, h2, h3, h4, h5, h6, h7⟩ := M
  refine ⟨.ref L, h1, .inl ⟨rfl, _, .inl (.inl h2)⟩, V, ρ, c, E, ef, fun a H' V' o x na hx' => ?_⟩
  have E1 := E.grow x
  have hL' : H' L = some (.lst (as.map L2.V.ref)) := x.h _ _ h2 (fun _ z => nomatch z)
  have nA : L ≠ a := fun z => by rw [z, na] at hL'; cases hL'
  have hva : V' a = none := by
    cases ev : V' a with
    | none => rfl
    | some u => have := x.s _ _ ev; rw [na] at this; cases this
  have hvL : V' L = none := x.f L h3 (by rw [h2]; exact fun z => nomatch z)
  have hna : F.H0 a = none ∧ ¬ IsOwn σ ρ a := ⟨E1.ext.free na, fun z => by
    obtain ⟨_, _, u, hu, _⟩ := E1.own_at z
    rw [na] at hu; cases hu⟩
  have E2 := E1.beside (p := a) (o := o) (fun x hx => by rw [na] at hx; cases hx) hva hna.1 hna.2
  have hL2 : upd H' a o L = some (.lst (as.map L2.V.ref)) := by rw [upd_ne nA]; exact hL'
  refine ⟨L, as.map L2.V.ref, .ref a, rfl, rfl, hL2, by rw [List.length_map, h6, sizeLine_eq]; omega, ?_⟩
  have E3 := E2.beside (p := L) (o := .lst (as.map L2.V.ref ++ [.ref a])) (fun x hx => by rw [hL2] at hx; cases hx; exact DL.plain_lst) hvL h4 h5
  have kp : ∀ {b : Addr} {cc : Str × Option PyData}, ExAt X.kw (upd H' a o) V' b cc → ExAt X.kw (upd (upd H' a o) L (.lst (as.map L2.V.ref ++ [.ref a]))) V' b cc := fun {b cc} hx => by
    obtain ⟨d, q1, q2⟩ := hx
    refine ⟨d, ?_, ?_⟩
    · rw [upd_ne (fun z => by rw [z, hL2] at q1; cases q1)]; exact q1
    · cases e2 : cc.2 with
      | none => rw [e2] at q2; exact q2
      | some dat =>
        rw [e2] at q2
        obtain ⟨dd, fs, y, w1, w2, w3, w4⟩ := q2
        exact ⟨dd, fs, y, w1, by rw [upd_ne (fun z => by rw [z, hL2] at w2; cases w2)]; exact w2, w3, w4⟩
  refine q _ V' ⟨E3, L, as ++ [a], h1, by rw [List.map_append]; exact upd_same, hvL, h4, h5, by rw [List.length_append, List.length_append, h6]; rfl, fun k b c' g1 g2 => ?_⟩ x.v
  by_cases hk : k < as.length
  · rw [List.getElem?_append_left hk] at g1
    rw [List.getElem?_append_left (by omega)] at g2
    have := h7 k b c' g1 g2
    refine kp ((this.keep (fun b u hb hu => x.h b u hb hu) x.v).keep (fun b u hb hu => ?_) (Same.refl _))
    rw [upd_ne (fun z => by rw [z, na] at hb; cases hb)]; exact hb
  · have hk2 : k = as.length := by
      have := (List.getElem?_eq_some_iff.mp g1).1
      rw [List.length_append, List.length_singleton] at this
      omega
    subst hk2
    rw [List.getElem?_append_right (Nat.le_refl _), Nat.sub_self] at g1
    rw [h6, List.getElem?_append_right (Nat.le_refl _), Nat.sub_self] at g2
    cases g1; cases g2
    exact kp hx'
end
end HD
set_option Elab.async false
set_option linter.all false
set_option maxRecDepth 100000
set_option maxHeartbeats 2000000
namespace HD
open PySem PySem.Spec PyProof.Rows L2 L2H HotX LamX DL
variable [TabCtx]
theorem _root_.DL.Ext.updHid {H V H' V' : Hp} {D : Addr} {o : HO} (x : Ext H V H' V') (h0 : H D = none) (v0 : V' D = none) (hp : ∀ u, H' D = some u → Plain u) : Ext H V (upd H' D o) V' := by
  refine ⟨fun b u e n => ?_, x.v, fun b u e => ?_, x.f, fun b h => ?_, fun t => tabs_upd hp (x.t t)⟩
  · rw [upd_ne (fun z => by rw [z, h0] at e; cases e)]; exact x.h b u e n
  · rw [upd_ne (fun z => by rw [z, v0] at e; cases e)]; exact x.s b u e
  · rw [upd_ne (fun z => h (by rw [z]; exact h0))]; exact x.th b h
theorem _root_.DL.Ext.showHid {H V H' V' : Hp} {D : Addr} {o : HO} (x : Ext H V H' V') (h0 : H D = none) (h1 : H' D = some o) (v0 : V' D = none) : Ext H V H' (upd V' D o) := by
  refine ⟨x.h, x.v.trans (same_new v0), fun b u e => ?_, fun b q1 q2 => ?_, x.th, x.t⟩
  · by_cases hb : b = D
    · subst hb; rw [upd_same] at e; cases e; exact h1
    · rw [upd_ne hb] at e; exact x.s b u e
  · rw [upd_ne (fun z => q2 (by rw [z]; exact h0))]; exact x.f b q1 q2
/-- the frame knows the refusals made -/
structure LkE (K : KW) (F : Fr) (i : Nat) (cs : List (Str × Option PyData)) : Prop where
  ls : F.ls = i
  l : ∃ (L : Addr) (as : List Addr), F.lent = some L ∧ F.H0 L = some (.lst (as.map L2.V.ref)) ∧ as.length = cs.length ∧ ∀ (k : Nat) (a : Addr) (c : Str × Option PyData), as[k]? = some a → cs[k]? = some c → ExAt K F.H0 F.V0 a c
theorem ExAt.dict {K : KW} {H V : Hp} {a : Addr} {c : Str × Option PyData} (h : ExAt K H V a c) : ∃ d, H a = some (exr a (.ref (He.ga K.k c.1)) d) ∧ ∀ dd, d = some dd → ∃ fs, H dd = some (.xd fs) := by
  obtain ⟨d, h1, h2⟩ := h
  refine ⟨d, h1, fun dd e => ?_⟩
  cases ec : c.2 with
  | none => rw [ec] at h2; have h2 : d = none := h2; rw [h2] at e; cases e
  | some dat =>
    rw [ec] at h2
    obtain ⟨d2, fs, y, q1, q2, _⟩ := h2
    rw [e] at q1; cases q1
    exact ⟨fs, q2⟩
def alonesM (ja je : Nat) : M PyData := fun ρ => if ja < ρ.length ∧ je < ρ.length then .ok (.list (List.replicate 10 (.bool true)), ρ) else .bad
theorem rep_trues {K : KW} {V : Hp} : ∀ n : Nat, RepL K V (List.replicate n (L2.V.bl true)) (List.replicate n (PyData.bool true))
  | 0 => .nil
  | n + 1 => .cons (.bl true) (rep_trues n)
section
variable {X : Cx} {F : Fr} {elt : Expr} {mk : Nat} {px pa pe p p' tp pos : Pos} {scope : Scope} {y at_ en : Str} {cs : List (Str × Option PyData)}
theorem pm_alones (i ja je : Nat) (lk : LkE X.kw F i cs) (hcs : cs.map (·.1) = ten) (hc : X.calm = true) (hN : X.N.Nodup) (hi : X.N[i]? = some y) (hv : Vis X.env.scope y) (hd : (y == ("__debug__" : Str)) = false) (hcd : (y == ("__classdict__" : Str)) = false) (hm : X.mg "enumerate" = none) (hg : Gl X "enumerate") (ok : BlkOk X.N X.env.scope scope [(at_, ja), (en, je)]) (hae : ja ≠ je)
    (ht : ∀ (s : Shared) (H : Hp) (C : Addr) (cl : List (Str × Addr)) (fp : List Addr), PG (X.blk s H scope (compEnvC scope cl C X.env) fp) (.Tuple [.Name at_ pa, .Name en pe] mk tp) (gTup X.K 2 (gCons (gName ja) (gCons (gName je) gNil))))
    (he : ∀ (s : Shared) (H : Hp) (C : Addr) (cl : List (Str × Addr)) (fp : List Addr), PE (X.blk s H scope (compEnvC scope cl C X.env) fp) elt (tCallS (spAlone X.kw) (fun _ _ _ _ => False) (tCons (tVar je) (tCons (tVar ja) tNil))))
    (hs1 : starEach [.Name y px] X.env = [(false, eval (.Name y px) X.env)] := by rfl) (hs : ∀ x, foldedSetIterable (.Call (.Name "enumerate" p) [.Name y px] [] p') X.env x = pure x := by intro _; rfl) :
    PM X F (.ListComp elt [⟨.Tuple [.Name at_ pa, .Name en pe] mk tp, .Call (.Name "enumerate" p) [.Name y px] [] p', [], 0⟩] scope pos) (alonesM ja je) := by
  refine DL.PE.imp (pe_lc hc hN (pi_enum hg hm (pa_cons (pe_var hi hv hd hcd) pa_nil (by rw [hs1]; rfl)) hs1) ok ht (fun _ _ _ _ _ => pts_nil) he hs) fun σ H Q ⟨V, ρ, E, g⟩ => ?_
  have g : Goal X.kw F σ ρ H V (Rep X.kw) (if ja < ρ.length ∧ je < ρ.length then .ok (PyData.list (List.replicate 10 (.bool true)), ρ) else .bad) Q := g
  by_cases hl : ja < ρ.length ∧ je < ρ.length
  · rw [if_pos hl] at g
    obtain ⟨L, as, l1, l2, l3, l4⟩ := lk.l
    have hL := E.lent L l1
    rw [lk.ls] at hL
    have l10 : as.length = 10 := by
      rw [l3]
      have := congrArg List.length hcs
      rw [List.length_map] at this
      rw [this]; rfl
    have hHL : H L = some (.lst (as.map L2.V.ref)) := E.ext.h _ _ l2 (fun _ z => nomatch z)
    refine ⟨.ref L, hL, L, as.map L2.V.ref, rfl, .inl (.inl hHL), fun D hD => ?_⟩
    have hTab := E.tabs
    refine ⟨fun k m Hk => k + m = 10 ∧ ∃ V', Ext H V Hk V' ∧ Hk D = some (.lst (List.replicate k (L2.V.bl true))) ∧ V' D = none, ⟨10, rfl, V, Ext.hid E.sub hD, upd_same, ?_⟩, fun k m Hk hW => ?_⟩
    · cases ev : V D with
      | none => rfl
      | some u => have := E.sub _ _ ev; rw [hD] at this; cases this
    · obtain ⟨hkm, V', x, hDk, vD⟩ := hW
      have hkL : Hk L = some (.lst (as.map L2.V.ref)) := x.h _ _ hHL (fun _ z => nomatch z)
      by_cases hk : k = 10
      · subst hk
        refine .inl ⟨⟨as.map L2.V.ref, .inl (.inl hkL), by rw [List.length_map]; omega⟩, ?_⟩
        exact g _ _ _ (E.step (x.showHid hD hDk vD)) (.lst upd_same (rep_trues 10))
      · have hk10 : k < 10 := by omega
        have hka : k < as.length := by omega
        refine .inr ⟨⟨as.map L2.V.ref, .ref as[k], .inl (.inl hkL), by rw [List.getElem?_map, List.getElem?_eq_getElem hka]; rfl⟩, fun H' => k + 1 + (m - 1) = 10 ∧ ∃ V', Ext H V H' V' ∧ H' D = some (.lst (List.replicate (k + 1) (L2.V.bl true))) ∧ V' D = none, fun H' h => ⟨m - 1, by omega, h⟩, fun x0 H' hy => ?_⟩
        obtain ⟨T, x1, rfl, hT, rfl, hx1⟩ := hy
        have e1 : x1 = .ref as[k] := by
          have := hx1 _ (.inl (.inl hkL))
          rw [List.getElem?_map, List.getElem?_eq_getElem hka] at this
          exact (Option.some.inj this).symm
        subst e1
        have vT : V' T = none := by
          cases ev : V' T with
          | none => rfl
          | some u => have := x.s _ _ ev; rw [hT] at this; cases this
        have x2 : Ext H V (upd Hk T (.tup [.int (k : Nat), .ref as[k]])) V' := x.updHid (x.free hT) vT (fun u hu => by rw [hT] at hu; cases hu)
        have hlen := E.len
        have hwl : (L2.wipe σ [ja, je]).length = σ.length := wipe_length σ [ja, je]
        refine ⟨T, _, rfl, .inl (.inl upd_same), rfl, _, _, rfl, _, _, rfl, rfl, ?_⟩
        refine ⟨?_, ?_⟩
        · show L2.wipe (((L2.wipe σ [ja, je]).set ja _).set je _) [ja, je] = _
          rw [wipe_set (by simp), wipe_set (by simp), wipe_wipe]
          rfl
        · unfold tYes
          dsimp only
          rw [if_pos rfl]
          refine ⟨.ref as[k], List.getElem?_set_self (by rw [List.length_set]; show je < (L2.wipe σ [ja, je]).length; rw [hwl]; omega), .int (k : Nat), ?_, ?_⟩
          · show (((L2.wipe σ [ja, je]).set ja (some (.int (k : Nat)))).set je (some (.ref as[k])))[ja]? = _
            rw [List.getElem?_set_ne (Ne.symm hae), List.getElem?_set_self (by rw [hwl]; omega)]
          · have hck : k < cs.length := by omega
            have hxa := l4 k as[k] cs[k] (List.getElem?_eq_getElem hka) (List.getElem?_eq_getElem hck)
            obtain ⟨d, d1, d2⟩ := (hxa.keep (fun b u hb hu => x2.h b u (E.ext.h b u hb hu) hu) (E.ext.v.trans x2.v)).dict
            have ht10 : ten[k]? = some cs[k].1 := by rw [← hcs, List.getElem?_map, List.getElem?_eq_getElem hck]; rfl
            refine ⟨as[k], cs[k].1, d, k, V', rfl, ht10, d1, d2, (E.grow x2).tabs, x2.s, fun v H4 V4 x4 r4 => ?_⟩
            have hTD : T ≠ D := fun z => by rw [z, hDk] at hT; cases hT
            have hD2 : (upd Hk T (.tup [.int (k : Nat), .ref as[k]])) D = some (.lst (List.replicate k (L2.V.bl true))) := by rw [upd_ne (Ne.symm hTD)]; exact hDk
            have hD4 : H4 D = some (.lst (List.replicate k (L2.V.bl true))) := x4.h _ _ hD2 (fun _ z => nomatch z)
            have vD4 : V4 D = none := x4.f D vD (by rw [hD2]; exact fun z => nomatch z)
            cases r4
            refine ⟨_, hD4, by rw [List.length_replicate, sizeLine_eq]; omega, by omega, V4, (x2.trans x4).updHid hD vD4 (fun u hu => by rw [hD4] at hu; cases hu; exact DL.plain_lst), ?_, vD4⟩
            rw [upd_same, List.replicate_succ']
  · rw [if_neg hl] at g; exact False.elim g
end
end HD
set_option Elab.async false
set_option linter.all false
set_option maxRecDepth 100000
set_option maxHeartbeats 2000000
namespace HD
open PySem PySem.Spec PyProof.Rows L2 L2H HotX LamX DL
variable [TabCtx]
section
variable {X : Cx} {F : Fr} {y : Str} {px p7 pp pos : Pos} {cs : List (Str × Option PyData)} {dat : PyData} {j : Nat}
theorem pm_beats (i : Nat) (CK : ClK X.K) (lk : LkE X.kw F i cs) (h7 : cs[7]? = some (("Clash" : Str), some dat)) (hN : X.N[i]? = some y) (hv : Vis X.env.scope y) (hd : (y == ("__debug__" : Str)) = false) (hcd : (y == ("__classdict__" : Str)) = false)
    (hb : attributeBase (.Subscript (.Name y px) (.Constant (.int 7) j p7) pp) "beats" X.env (eval (.Subscript (.Name y px) (.Constant (.int 7) j p7) pp) X.env) = eval (.Subscript (.Name y px) (.Constant (.int 7) j p7) pp) X.env := by rfl) (hs : PlainIx (.Constant (.int 7) j p7) := by exact fun _ _ => rfl) :
    PM X F (.Attribute (.Subscript (.Name y px) (.Constant (.int 7) j p7) pp) "beats" pos) (cD dat) := by
  refine DL.PE.imp (pe_xfT CK.xf CK.nb (pe_ix ix_seq (pe_var hN hv hd hcd) pe_int hs) hb) fun σ H Q ⟨V, ρ, E, g⟩ => ?_
  obtain ⟨L, as, l1, l2, l3, l4⟩ := lk.l
  have hL := E.lent L l1
  rw [lk.ls] at hL
  have hHL : H L = some (.lst (as.map L2.V.ref)) := E.ext.h _ _ l2 (fun _ z => nomatch z)
  have h7l : 7 < as.length := by rw [l3]; exact (List.getElem?_eq_some_iff.mp h7).1
  obtain ⟨d, e1, e2⟩ := (l4 7 as[7] _ (List.getElem?_eq_getElem h7l) h7).keep (fun b u hb hu => E.ext.h b u hb hu) E.ext.v
  obtain ⟨dd, fs, v, q1, q2, q3, q4⟩ := e2
  subst q1
  refine ⟨.ref L, hL, .inl ⟨L, as.map L2.V.ref, 7, .ref as[7], rfl, rfl, .inl (.inl hHL), ?_, as[7], dd, fs, v, rfl, e1, q2, q3, ?_⟩⟩
  · exact atI_nat (j := 7) (by rw [List.getElem?_map, List.getElem?_eq_getElem h7l]; rfl)
  · exact g _ _ _ E.refl q4
end
/-- what is left: refusals to be met, then the look at all -/
def runF : List (Rho → Option (Str × Option PyData)) → (List (Str × Option PyData) → Rho → Bool) → List (Str × Option PyData) → Rho → Bool
  | [], fin, cs, ρ => fin cs ρ
  | f :: fs, fin, cs, ρ => match f ρ with
    | some c => runF fs fin (cs ++ [c]) ρ
    | none => false
def metsO (i : Nat) (f : Rho → Option (Str × Option PyData)) (fs : List (Rho → Option (Str × Option PyData))) (fin : List (Str × Option PyData) → Rho → Bool) : SM := fun ρ => if i < ρ.length then (match f ρ with
  | some c => if runF fs fin [c] (ρ.set i .no) = true then .nx (ρ.set i .no) else .bad
  | none => .bad) else .bad
def tMd (K : KW) (F : Fr) (i : Nat) (fs : List (Rho → Option (Str × Option PyData))) (fin : List (Str × Option PyData) → Rho → Bool) : TS := fun D σ H => ∃ V ρ cs, MadeAt K F i cs σ H ρ V ∧ cs.length + fs.length ≤ 50 ∧ runF fs fin cs ρ = true ∧ ∀ H' V', EnvR K F H' V' σ ρ → Same V V' → D.nx σ H'
section
variable {X : Cx} {F : Fr} {e : Expr} {y : Str} {f : Rho → Option (Str × Option PyData)} {fs : List (Rho → Option (Str × Option PyData))} {fin : List (Str × Option PyData) → Rho → Bool} {py lp pos apos cpos px : Pos} {rest : List Stmt}
theorem pss_mets (i : Nat) (he : PE X e (tEx X.kw F f)) (hf50 : fs.length ≤ 49) (hr : PSs X rest (tMd X.kw F i fs fin)) (hN : X.N.Nodup) (hi : X.N[i]? = some y := by rfl) (hx : Loc X.env.scope y := by first | exact Or.inl rfl | exact Or.inr rfl) (hl : i ≠ F.ls ∨ F.lent = none := by first | exact Or.inr rfl | exact Or.inl (ne_ls rfl)) (hse : starEach [e] X.env = (false, eval e X.env) :: starEach [] X.env := by rfl)
    (hs : swapsWith (.List [e] lp) (some (.Name y py)) pos.line X.env = pure false := by rfl) (hf : X.fn y = true ∨ X.env.scope.names.lookup y = some .local := by first | exact .inl rfl | exact .inr rfl | assumption) :
    PMSs X F (.Assign [.Name y py] (.List [e] lp) pos :: rest) (metsO i f fs fin) := by
  refine DL.PSs.imp (pss_cons (ps_made0 i he hN hi hx hl hse hs hf) hr) fun D σ H ⟨V, ρ, E, g⟩ => ?_
  have g : GoalS X.kw F V (if i < ρ.length then (match f ρ with
    | some c => if runF fs fin [c] (ρ.set i .no) = true then .nx (ρ.set i .no) else .bad
    | none => .bad) else .bad) D := g
  by_cases hil : i < ρ.length
  · rw [if_pos hil] at g
    cases ef : f ρ with
    | none => rw [ef] at g; exact False.elim g
    | some c =>
      rw [ef] at g
      dsimp only at g
      by_cases hr' : runF fs fin [c] (ρ.set i .no) = true
      · rw [if_pos hr'] at g
        exact ⟨V, ρ, c, E, hil, ef, fun σ' H' V' M v => ⟨V', _, [c], M, by rw [List.length_singleton]; omega, hr', fun H2 V2 E2 v2 => g σ' H2 V2 E2 (v.trans v2)⟩⟩
      · rw [if_neg hr'] at g; exact False.elim g
  · rw [if_neg hil] at g; exact False.elim g
theorem pss_metA (i : Nat) (he : PE X e (tEx X.kw F f)) (hr : PSs X rest (tMd X.kw F i fs fin)) (hN : X.N[i]? = some y := by rfl) (hv : Vis X.env.scope y := by first | exact Or.inl rfl | exact Or.inr (Or.inl rfl) | exact Or.inr (Or.inr rfl)) (hd : (y == ("__debug__" : Str)) = false := by decide) (hcd : (y == ("__classdict__" : Str)) = false := by decide)
    (hbase : attributeBase (.Name y px) "append" X.env (eval (.Name y px) X.env) = eval (.Name y px) X.env := by rfl)
    (hfew : ((backTo cpos (starEach [e] X.env)).all (fun x => !x.1) && (backToKw cpos (keywordEach [] X.env)).all (fun x => x.1.isSome) && decide ([e].length + ([] : List Keyword).length + (if ([] : List Keyword).isEmpty then 0 else 1) < 30)) = true := by rfl)
    (hline : (apos.endLine == cpos.line) = true := by rfl) (hs : starEach [e] X.env = (false, eval e X.env) :: starEach [] X.env := by rfl) (hplain : (backTo cpos (starEach [] X.env)).any (·.1) = false := by rfl)
    (hsw : swapsWith (.Call (.Attribute (.Name y px) "append" apos) [e] [] cpos) none pos.line X.env = pure false := by rfl) :
    PSs X (.Expr (.Call (.Attribute (.Name y px) "append" apos) [e] [] cpos) pos :: rest) (tMd X.kw F i (f :: fs) fin) := by
  refine DL.PSs.imp (pss_cons (ps_madeA i he hN hv hd hcd hbase hfew hline hs hplain hsw) hr) fun D σ H ⟨V, ρ, cs, M, hl, hr, g⟩ => ?_
  have hr : (match f ρ with | some c => runF fs fin (cs ++ [c]) ρ | none => false) = true := hr
  rw [List.length_cons] at hl
  cases ef : f ρ with
  | none => rw [ef] at hr; cases hr
  | some c =>
    rw [ef] at hr
    refine ⟨V, ρ, cs, c, M, by omega, ef, fun H' V' M' v => ⟨V', ρ, cs ++ [c], M', by rw [List.length_append, List.length_singleton]; omega, hr, fun H2 V2 E2 v2 => g H2 V2 E2 (v.trans v2)⟩⟩
/-- the look at all: false, or the law ends -/
def finE (t : PyData → M Bool) : List (Str × Option PyData) → Rho → Bool := fun cs ρ => decide (cs.map (·.1) = ten) && match cs[7]? with
  | some (_, some dat) => (match t dat (HD.forget ρ) with
    | .ok (false, _) => true
    | _ => false)
  | _ => false
theorem finE_true {t : PyData → M Bool} {cs : List (Str × Option PyData)} {ρ : Rho} (h : finE t cs ρ = true) : cs.map (·.1) = ten ∧ ∃ dat ρ', cs[7]? = some (("Clash" : Str), some dat) ∧ t dat (HD.forget ρ) = .ok (false, ρ') := by
  unfold finE at h
  obtain ⟨h1, h2⟩ := Bool.and_eq_true_iff.mp h
  have h1 := of_decide_eq_true h1
  refine ⟨h1, ?_⟩
  cases e : cs[7]? with
  | none => rw [e] at h2; cases h2
  | some c =>
    obtain ⟨c1, c2⟩ := c
    rw [e] at h2
    cases c2 with
    | none => cases h2
    | some dat =>
      have e1 : c1 = ("Clash" : Str) := by
        have : (cs.map (·.1))[7]? = some c1 := by rw [List.getElem?_map, e]; rfl
        rw [h1] at this
        exact (Option.some.inj this).symm
      subst e1
      dsimp only at h2
      cases et : t dat (HD.forget ρ) with
      | exc c => rw [et] at h2; cases h2
      | bad => rw [et] at h2; cases h2
      | ok p =>
        obtain ⟨b, ρ'⟩ := p
        rw [et] at h2
        cases b with
        | true => cases h2
        | false => exact ⟨dat, ρ', rfl, et⟩
theorem pss_look {test : Expr} {body : List Stmt} {t : PyData → M Bool} (i : Nat) (hT : ∀ (G : Fr) (cs : List (Str × Option PyData)) (dat : PyData), LkE X.kw G i cs → cs.map (·.1) = ten → cs[7]? = some (("Clash" : Str), some dat) → PMT X G test (t dat)) :
    PSs X [.If test body [] pos] (tMd X.kw F i [] (finE t)) := by
  have h3 : PT X test (fun σ H Q => ∃ (G : Fr) (cs : List (Str × Option PyData)) (dat : PyData), LkE X.kw G i cs ∧ cs.map (·.1) = ten ∧ cs[7]? = some (("Clash" : Str), some dat) ∧ tMT X.kw G (t dat) σ H Q) := ⟨fun pins s σ H Q I ⟨G, cs, dat, a, b, c, q⟩ => (hT G cs dat a b c).run pins s σ H Q I q⟩
  refine DL.PSs.imp (pss_one (ps_if h3 (pss_never (sts := body)) pss_nil)) fun D σ H ⟨V, ρ, cs, M, hl, hr, g⟩ => ?_
  obtain ⟨h1, dat, ρ', h7, et⟩ := finE_true hr
  obtain ⟨E, L, as, l1, l2, l3, l4, l5, l6, l7⟩ := M
  have Ef : EnvR X.kw ⟨H, V, some L, fun _ _ _ => False, i, fun _ => False⟩ H V σ (HD.forget ρ) := by
    have e := HD.EnvR.forget (E := fun _ _ _ => False) E
    exact ⟨e.len, e.ext, e.sh, e.ow, e.dis, fun a ha => by cases ha; exact l1, e.tab, ObE.non fun j o h => by
      unfold HD.forget at h
      rw [List.getElem?_map] at h
      obtain ⟨u, _, hu⟩ := Option.map_eq_some_iff.mp h
      cases u <;> cases hu⟩
  refine ⟨⟨H, V, some L, fun _ _ _ => False, i, fun _ => False⟩, cs, dat, ⟨rfl, L, as, rfl, l2, l6, l7⟩, h1, h7, V, HD.forget ρ, Ef, ?_⟩
  rw [et]
  intro b H' V' st eb
  subst eb
  exact g H' V' (E.grow st.env.ext) st.v
end
end HD
set_option Elab.async false
set_option linter.all false
set_option maxRecDepth 100000
set_option maxHeartbeats 2000000
namespace DL
open PySem PySem.Spec PyProof.Rows L2
variable [TabCtx]
theorem fold_rep (a : Array Nat) : ∀ (k : Nat) (acc : Array Nat), ((List.replicate k a).foldl (· ++ ·) acc).toList = acc.toList ++ (List.replicate k a.toList).flatten
  | 0, acc => by simp
  | k + 1, acc => by
    rw [List.replicate_succ, List.foldl_cons, fold_rep a k (acc ++ a), List.replicate_succ, List.flatten_cons, Array.toList_append, List.append_assoc]
def gMulT : PyData → PyData → Option PyData
  | .str z, .int n => if 1 ≤ n ∧ n ≤ 1000 ∧ z.length = 1 then some (.str (mkS (List.replicate n.toNat (TL.tl z)).flatten)) else none
  | _, _ => none
def rMulT : R2 := fun x y H Q => ∃ z n, x = .str z ∧ y = .int n ∧ (1 ≤ n ∧ n ≤ 1000 ∧ z.length = 1) ∧ Q (.str (mkS (List.replicate n.toNat (TL.tl z)).flatten)) H
theorem op_mulT {X : Cx} : OpR X (binaryOp .Mult) rMulT := by
  intro pins s σ H x y v u Q I rx ry h
  obtain ⟨z, n, rfl, rfl, ⟨h1, h2, h3⟩, q⟩ := h
  obtain ⟨t, rfl⟩ := rx
  obtain ⟨t', rfl⟩ := ry
  refine P.mul_str (by rw [decide_eq_false (by omega), decide_eq_false (by omega)]; rfl) (fun _ _ => ?_) (fun _ _ => ?_) ?_
  · rw [h3]
    have : (1 : Int) ≤ (2 ^ 63 - 1) / n := Int.le_ediv_of_mul_le (by omega) (by omega)
    omega
  · rw [h3]
    exact decide_eq_false (by rw [sizeLine_eq]; omega)
  · rw [if_neg (by omega)]
    by_cases hn : (n == 1 || z.length == 0) = true
    · rw [if_pos hn]
      have e1 : n = 1 := by
        rw [h3] at hn
        simpa using hn
      subst e1
      have e : mkS (List.replicate (1 : Int).toNat (TL.tl z)).flatten = z := by
        show mkS (TL.tl z ++ []) = z
        rw [List.append_nil, mkS_tl]
      rw [e] at q
      exact ⟨.str z, H, I, ⟨t, rfl⟩, q⟩
    · rw [if_neg hn]
      have e : (⟨(List.replicate n.toNat z.cps).foldl (· ++ ·) #[]⟩ : Str) = mkS (List.replicate n.toNat (TL.tl z)).flatten := by
        refine TL.ext_tl ?_
        rw [TL.tl_mk]
        exact (fold_rep z.cps n.toNat #[]).trans (by simp)
      rw [e]
      refine ⟨?_, .str _, H, I.tok _, ⟨_, rfl⟩, q⟩
      rw [TL.len_tl, TL.tl_mk, List.length_flatten, List.map_replicate, List.sum_replicate_nat, ← TL.len_tl, h3, sizeLine_eq]
      omega
theorem od_mulT {K : KW} : OpD K rMulT gMulT := by
  intro x y dx dy z H V Q s rx ry e q
  cases rx with
  | str a =>
    cases ry with
    | int n =>
      obtain ⟨h, rfl⟩ := ite_some e
      exact ⟨a, n, rfl, rfl, h, q _ _ _ (Ext.refl s) (.str _)⟩
    | _ => cases e
  | _ => cases ry <;> cases e
end DL
namespace HD
open PySem PySem.Spec PyProof.Rows L2 L2H HotX LamX DL
theorem ten_or : ∀ c ∈ ten, c = ("Clash" : Str) ∨ c ∈ excs := by decide +kernel
theorem ecA {K : PySem.W.Frag} (EX : ExcT K) (CK : ClK K) (c : Str) (h : c ∈ ten) : ExcC K (He.ga K c) := by
  rcases ten_or c h with rfl | h
  · exact CK.ec
  · exact EX.c c h
theorem kA {K : PySem.W.Frag} (EX : ExcT K) (CK : ClK K) (c : Str) (h : c ∈ ten) (d : Str) (hd : d ∈ excs1) : PySem.W.kitOne K (.ref (He.ga K c)) (.ref (He.ga K d)) = some (decide (c = d)) := by
  rcases ten_or c h with rfl | h
  · exact CK.k d hd
  · exact EX.k c h d hd
theorem vA {K : PySem.W.Frag} (EX : ExcT K) (CK : ClK K) (c : Str) (h : c ∈ ten) : PySem.W.kitOne K (.ref (He.ga K c)) (.type "ValueError") = some true := by
  rcases ten_or c h with rfl | h
  · exact CK.v
  · exact EX.v c h
end HD
set_option Elab.async false
set_option linter.all false
set_option maxRecDepth 100000
set_option maxHeartbeats 4000000
namespace G
open PySem PySem.Spec PyProof.Rows L2 DL
def b_is_whole : SM := (retO (andV (isi .int (vN 0)) (andV (notV (isi .bool (vN 0))) (chain gLe gLe (vN 1) (vN 0) (vN 2)))))
def m_is_whole : List PyData → R PyData := fnRun 3 3 b_is_whole
def b_is_word : SM := (retO (andV (isi .str (vN 0)) (andV (chain gLe gLe (cD (.int 1)) (opA gLen (aC (vN 0) aN)) (cD (.int 8))) (opA gAll (aC (lcM [1] (seqI (vN 0)) (setS 1) yesT (op2 gIn (vN 1) (cD (.str "abcdefghijklmnopqrstuvwxyz")))) aN)))))
def m_is_word : List PyData → R PyData := fnRun 1 2 b_is_word
def b_rise : SM := (retO (opA gAll (aC (lcM [1, 2] (opI gZip (aC (vN 0) (aC (slc (vN 0) (prt (cD (.int 1))) noPrt) aN))) (unT (gsC (setS 1) (gsC (setS 2) gsN))) yesT (op2 gLt (vN 1) (vN 2))) aN)))
def m_rise : List PyData → R PyData := fnRun 1 3 b_rise
def b_are_lines : SM := (retO (andV (isi .tuple (vN 0)) (andV (op2 gEq (opA gLen (aC (vN 0) aN)) (vN 1)) (opA gAll (aC (lcM [3] (seqI (vN 0)) (setS 3) yesT (callM m_is_whole (aC (vN 3) (aC (cD (.int 0)) (aC (op2 gSub (vN 2) (cD (.int 1))) aN))))) aN)))))
def m_are_lines : List PyData → R PyData := fnRun 3 4 b_are_lines
def b_is_ear : SM := (retO (andV (isi .tuple (vN 0)) (andV (op2 gEq (opA gLen (aC (vN 0) aN)) (cD (.int 2))) (andV (callM m_is_word (aC (op2 gIx (vN 0) (cD (.int 0))) aN)) (callM m_is_whole (aC (op2 gIx (vN 0) (cD (.int 1))) (aC (cD (.int 1)) (aC (cD (.int 3)) aN))))))))
def m_is_ear : List PyData → R PyData := fnRun 1 1 b_is_ear
def b_are_ears : SM := (retO (andV (isi .tuple (vN 0)) (andV (op2 gLe (opA gLen (aC (vN 0) aN)) (cD (.int 2))) (andV (opA gAll (aC (lcM [1] (seqI (vN 0)) (setS 1) yesT (callM m_is_ear (aC (vN 1) aN))) aN)) (callM m_rise (aC (vN 0) aN))))))
def m_are_ears : List PyData → R PyData := fnRun 1 2 b_are_ears
def b_places_for : SM := (retO (op2 gIx (opA gLstD (aC (cD (.int 1)) (aC (vN 0) (aC (op2 gMul (vN 0) (vN 0)) aN)))) (opA gLen (aC (vN 1) aN))))
def m_places_for : List PyData → R PyData := fnRun 2 2 b_places_for
def b_is_singer : SM := (seqO (ifO (orT (notT (tst (isi .tuple (vN 0)))) (orT (tst (op2 gNe (opA gLen (aC (vN 0) aN)) (cD (.int 3)))) (orT (notT (tst (callM m_is_word (aC (op2 gIx (vN 0) (cD (.int 0))) aN)))) (notT (tst (callM m_are_ears (aC (op2 gIx (vN 0) (cD (.int 1))) aN))))))) (retO (cD (.bool false))) nxO)
  (retO (callM m_are_lines (aC (op2 gIx (vN 0) (cD (.int 2))) (aC (callM m_places_for (aC (vN 1) (aC (op2 gIx (vN 0) (cD (.int 1))) aN))) (aC (vN 1) aN))))))
def m_is_singer : List PyData → R PyData := fnRun 2 2 b_is_singer
def b_is_choir : SM := (seqO (ifO (orT (notT (tst (isi .tuple (vN 0)))) (orT (tst (op2 gNe (opA gLen (aC (vN 0) aN)) (cD (.int 2)))) (notT (tst (callM m_is_whole (aC (op2 gIx (vN 0) (cD (.int 0))) (aC (cD (.int 2)) (aC (cD (.int 4)) aN)))))))) (retO (cD (.bool false))) nxO)
  (seqO (asgO (vN 0) (unT (gsC (setS 1) (gsC (setS 2) gsN))))
  (seqO (ifO (orT (notT (tst (isi .tuple (vN 2)))) (notT (tst (chain gLe gLe (cD (.int 1)) (opA gLen (aC (vN 2) aN)) (cD (.int 4)))))) (retO (cD (.bool false))) nxO)
  (seqO (ifO (orT (notT (tst (opA gAll (aC (lcM [4] (seqI (vN 2)) (setS 4) yesT (callM m_is_singer (aC (vN 4) (aC (vN 1) aN)))) aN)))) (notT (tst (callM m_rise (aC (lcM [4] (seqI (vN 2)) (setS 4) yesT (op2 gIx (vN 4) (cD (.int 0)))) aN))))) (retO (cD (.bool false))) nxO)
  (seqO (asgO (lcM [4] (seqI (vN 2)) (setS 4) yesT (op2 gIx (vN 4) (cD (.int 0)))) (setS 3))
  (retO (opA gAll (aC (lcM2 [4, 5] [5] (seqI (vN 2)) (setS 4) yesT (seqI (op2 gIx (vN 4) (cD (.int 1)))) (setS 5) yesT (op2 gIn (op2 gIx (vN 5) (cD (.int 0))) (vN 3))) aN))))))))
def m_is_choir : List PyData → R PyData := fnRun 1 6 b_is_choir
def b_need_choir : SM := (ifO (notT (tst (callM m_is_choir (aC (vN 0) aN)))) (raiseO "BadChoir") nxO)
def m_need_choir : List PyData → R PyData := fnRun 1 1 b_need_choir
def b_all_names : SM := (retO (lcM [1] (seqI (op2 gIx (vN 0) (cD (.int 1)))) (setS 1) yesT (op2 gIx (vN 1) (cD (.int 0)))))
def m_all_names : List PyData → R PyData := fnRun 1 2 b_all_names
def b_names : SM := (seqO (dropO (callM m_need_choir (aC (vN 0) aN)))
  (retO (callM m_all_names (aC (vN 0) aN))))
def m_names : List PyData → R PyData := fnRun 1 1 b_names
def b_is_good_standing : SM := (seqO (ifO (orT (notT (tst (isi .tuple (vN 1)))) (tst (op2 gNe (opA gLen (aC (vN 1) aN)) (opA gLen (aC (op2 gIx (vN 0) (cD (.int 1))) aN))))) (retO (cD (.bool false))) nxO)
  (retO (opA gAll (aC (lcM [2] (seqI (vN 1)) (setS 2) yesT (callM m_are_lines (aC (vN 2) (aC (cD (.int 3)) (aC (op2 gIx (vN 0) (cD (.int 0))) aN))))) aN))))
def m_is_good_standing : List PyData → R PyData := fnRun 2 3 b_is_good_standing
def b_need_standing : SM := (ifO (notT (tst (callM m_is_good_standing (aC (vN 0) (aC (vN 1) aN))))) (raiseO "BadStanding") nxO)
def m_need_standing : List PyData → R PyData := fnRun 2 2 b_need_standing
def b_number_of : SM := (retO (opM gIndex (callM m_all_names (aC (vN 0) aN)) (aC (vN 1) aN)))
def m_number_of : List PyData → R PyData := fnRun 2 2 b_number_of
def b_heard_by : SM := (retO (opA gTuple (aC (lcM [3, 4] (seqI (op2 gIx (vN 2) (cD (.int 1)))) (unT (gsC (setS 3) (gsC (setS 4) gsN))) yesT (op2 gIx (op2 gIx (vN 1) (callM m_number_of (aC (vN 0) (aC (vN 3) aN)))) (op2 gSub (cD (.int 3)) (vN 4)))) aN)))
def m_heard_by : List PyData → R PyData := fnRun 3 5 b_heard_by
def b_place_of_L1 : SM := (asgO (op2 gAdd (op2 gMul (vN 2) (vN 0)) (vN 3)) (setS 2))
def b_place_of : SM := (seqO (asgO (cD (.int 0)) (setS 2))
  (seqO (forO (seqI (vN 1)) (setS 3) b_place_of_L1)
  (retO (vN 2))))
def m_place_of : List PyData → R PyData := fnRun 2 4 b_place_of
def b_table_line : SM := (retO (op2 gIx (op2 gIx (vN 2) (cD (.int 2))) (callM m_place_of (aC (op2 gIx (vN 0) (cD (.int 0))) (aC (callM m_heard_by (aC (vN 0) (aC (vN 1) (aC (vN 2) aN)))) aN)))))
def m_table_line : List PyData → R PyData := fnRun 3 3 b_table_line
def b_all_next : SM := (retO (opA gTuple (aC (lcM [2] (seqI (op2 gIx (vN 0) (cD (.int 1)))) (setS 2) yesT (callM m_table_line (aC (vN 0) (aC (vN 1) (aC (vN 2) aN))))) aN)))
def m_all_next : List PyData → R PyData := fnRun 2 3 b_all_next
def b_behind : SM := (retO (opA gTuple (aC (lcM [2, 3] (opI gZip (aC (vN 0) (aC (vN 1) aN))) (unT (gsC (setS 2) (gsC (setS 3) gsN))) yesT (op2 gAdd (slc (vN 2) (prt (cD (.int 1))) noPrt) (opA gTupD (aC (vN 3) aN)))) aN)))
def m_behind : List PyData → R PyData := fnRun 2 4 b_behind
def b_on : SM := (retO (callM m_behind (aC (vN 1) (aC (callM m_all_next (aC (vN 0) (aC (vN 1) aN))) aN))))
def m_on : List PyData → R PyData := fnRun 2 2 b_on
def b_do_count_L1 : SM := (seqO (asgO (lcM [7] (opI rg1 (aC (vN 0) aN)) (setS 7) yesT (ifV (tst (op2 gEq (vN 2) (cD (.int 0)))) (opA gTupD (aC (vN 7) (aC (vN 5) aN))) (opA gTupD (aC (vN 5) (aC (vN 7) aN))))) (setS 6))
  (ifO (tst (op2 gGt (op1 setLen (lcM [8] (seqI (vN 6)) (setS 8) yesT (op2 gIx (vN 4) (callM m_place_of (aC (vN 0) (aC (slc (vN 8) noPrt (prt (opA gLen (aC (vN 3) aN)))) aN)))))) (cD (.int 1)))) (retO (cD (.bool true))) nxO))
def b_do_count : SM := (seqO (asgO (opA gTupD (aC (op2 gIx (vN 1) (cD (.int 1))) (aC (op2 gIx (vN 1) (cD (.int 2))) aN))) (unT (gsC (setS 3) (gsC (setS 4) gsN))))
  (seqO (forO (opI rg1 (aC (ifV (tst (op2 gEq (opA gLen (aC (vN 3) aN)) (cD (.int 2)))) (vN 0) (cD (.int 1))) aN)) (setS 5) b_do_count_L1)
  (retO (cD (.bool false)))))
def m_do_count : List PyData → R PyData := fnRun 3 9 b_do_count
def b_ears_that_count : SM := (retO (opA gTuple (aC (lcM [2, 3] (opI gEnum (aC (op2 gIx (vN 1) (cD (.int 1))) aN)) (unT (gsC (setS 2) (gsC (setS 3) gsN))) (tst (callM m_do_count (aC (vN 0) (aC (vN 1) (aC (vN 2) aN))))) (vN 3)) aN)))
def m_ears_that_count : List PyData → R PyData := fnRun 2 4 b_ears_that_count
def b_lean_singer : SM := (seqO (asgO (vN 1) (unT (gsC (setS 2) (gsC (setS 3) (gsC (setS 4) gsN)))))
  (seqO (asgO (callM m_ears_that_count (aC (vN 0) (aC (vN 1) aN))) (setS 5))
  (seqO (ifO (tst (op2 gEq (vN 5) (vN 3))) (retO (vN 1)) nxO)
  (seqO (ifO (tst (op2 gEq (vN 5) (opA gTupD aN))) (retO (opA gTupD (aC (vN 2) (aC (opA gTupD aN) (aC (slc (vN 4) noPrt (prt (cD (.int 1)))) aN))))) nxO)
  (seqO (asgO (lcM [7] (opI rg1 (aC (vN 0) aN)) (setS 7) yesT (ifV (tst (op2 gEq (op2 gIx (vN 5) (cD (.int 0))) (op2 gIx (vN 3) (cD (.int 0))))) (op2 gMul (vN 7) (vN 0)) (vN 7))) (setS 6))
  (retO (opA gTupD (aC (vN 2) (aC (vN 5) (aC (opA gTuple (aC (lcM [8] (seqI (vN 6)) (setS 8) yesT (op2 gIx (vN 4) (vN 8))) aN)) aN))))))))))
def m_lean_singer : List PyData → R PyData := fnRun 2 9 b_lean_singer
def b_leaned : SM := (retO (opA gTupD (aC (op2 gIx (vN 0) (cD (.int 0))) (aC (opA gTuple (aC (lcM [1] (seqI (op2 gIx (vN 0) (cD (.int 1)))) (setS 1) yesT (callM m_lean_singer (aC (op2 gIx (vN 0) (cD (.int 0))) (aC (vN 1) aN)))) aN)) aN))))
def m_leaned : List PyData → R PyData := fnRun 1 2 b_leaned
def b_need_both : SM := (seqO (dropO (callM m_need_choir (aC (vN 0) aN)))
  (dropO (callM m_need_standing (aC (vN 0) (aC (vN 1) aN)))))
def m_need_both : List PyData → R PyData := fnRun 2 2 b_need_both
def b_need_beats : SM := (ifO (notT (tst (callM m_is_whole (aC (vN 0) (aC (cD (.int 0)) (aC (cD (.int 500)) aN)))))) (raiseO "BadNumber") nxO)
def m_need_beats : List PyData → R PyData := fnRun 1 1 b_need_beats
def b_rows_of_L1 : SM := (seqO (appO 3 (callM m_all_next (aC (vN 0) (aC (vN 1) aN))))
  (asgO (callM m_on (aC (vN 0) (aC (vN 1) aN))) (setS 1)))
def b_rows_of : SM := (seqO (ownO 3 aN)
  (seqO (forO (opI rg1 (aC (vN 2) aN)) (setS 4) b_rows_of_L1)
  (demO false (retO (vN 3)))))
def m_rows_of : List PyData → R PyData := fnRun 3 5 b_rows_of
def b_song : SM := (seqO (dropO (callM m_need_both (aC (vN 0) (aC (vN 1) aN))))
  (seqO (dropO (callM m_need_beats (aC (vN 2) aN)))
  (retO (callM m_rows_of (aC (vN 0) (aC (vN 1) (aC (vN 2) aN)))))))
def m_song : List PyData → R PyData := fnRun 3 3 b_song
def b_singer_text : SM := (seqO (asgO (vN 0) (unT (gsC (setS 1) (gsC (setS 2) (gsC (setS 3) gsN)))))
  (seqO (asgO (lcM [5, 6] (seqI (vN 2)) (unT (gsC (setS 5) (gsC (setS 6) gsN))) yesT (opF "-" (vN 5) (vN 6))) (setS 4))
  (retO (opS gJoin (cD (.str " ")) (op2 gAdd (op2 gAdd (opA gLstD (aC (vN 1) aN)) (vN 4)) (opA gLstD (aC (cD (.str ":")) (aC (opS gJoin (cD (.str "")) (lcM [7] (seqI (vN 3)) (setS 7) yesT (opA gStr (aC (vN 7) aN)))) aN))))))))
def m_singer_text : List PyData → R PyData := fnRun 1 8 b_singer_text
def b_choir_text : SM := (seqO (dropO (callM m_need_choir (aC (vN 0) aN)))
  (retO (opS gJoin (cD (.str "\n")) (op2 gAdd (opA gLstD (aC (opA gStr (aC (op2 gIx (vN 0) (cD (.int 0))) aN)) aN)) (lcM [1] (seqI (op2 gIx (vN 0) (cD (.int 1)))) (setS 1) yesT (callM m_singer_text (aC (vN 1) aN)))))))
def m_choir_text : List PyData → R PyData := fnRun 1 2 b_choir_text
def b_law_drawn : SM := (seqO (asgO (op2 gMod (op2 gAdd (op2 gMul (vN 0) (cD (.int 6364136223846793005))) (op2 gMul (op2 gAdd (vN 1) (cD (.int 1))) (cD (.int 1442695040888963407)))) (cD (.int 340282366920938463463374607431768211507))) (setS 2))
  (seqO (asgO (op2 gMod (op2 gMul (vN 2) (vN 2)) (cD (.int 340282366920938463463374607431768211297))) (setS 2))
  (seqO (asgO (op2 gMul (op2 gMul (op2 gAdd (op2 gMod (vN 2) (cD (.int 18446744073709551557))) (cD (.int 1))) (op2 gAdd (op2 gDiv (vN 2) (cD (.int 18446744073709551557))) (cD (.int 1)))) (vN 2)) (setS 2))
  (retO (op2 gMod (vN 2) (cD (.int 340282366920938463463374607431768211507)))))))
def m_law_drawn : List PyData → R PyData := fnRun 2 3 b_law_drawn
def b_law_roll : SM := (seqO (ifO (tst (op2 gGe (ixO 0 (cD (.int 0))) (op2 gPow (cD (.int 10)) (cD (.int 18))))) (seqO (asgO (op2 gMod (ixO 0 (cD (.int 0))) (vN 1)) (setS 2))
  (seqO (sixO 0 (cD (.int 0)) (op2 gDiv (ixO 0 (cD (.int 0))) (vN 1)))
  (retO (vN 2)))) nxO)
  (seqO (sixO 0 (cD (.int 1)) (op2 gAdd (ixO 0 (cD (.int 1))) (cD (.int 1))))
  (retO (op2 gMod (op2 gDiv (callM m_law_drawn (aC (ixO 0 (cD (.int 0))) (aC (ixO 0 (cD (.int 1))) aN))) (cD (.int 8))) (vN 1)))))
def m_law_roll : PyData → List PyData → R (PyData × PyData) := fnRunL 1 3 b_law_roll
def b_need_name : SM := (ifO (orT (notT (tst (isi .str (vN 1)))) (tst (op2 gNotIn (vN 1) (callM m_all_names (aC (vN 0) aN))))) (raiseO "BadName") nxO)
def m_need_name : List PyData → R PyData := fnRun 2 2 b_need_name
def b_counting : SM := (seqO (dropO (callM m_need_choir (aC (vN 0) aN)))
  (seqO (dropO (callM m_need_name (aC (vN 0) (aC (vN 1) aN))))
  (retO (callM m_ears_that_count (aC (op2 gIx (vN 0) (cD (.int 0))) (aC (op2 gIx (op2 gIx (vN 0) (cD (.int 1))) (callM m_number_of (aC (vN 0) (aC (vN 1) aN)))) aN))))))
def m_counting : List PyData → R PyData := fnRun 2 2 b_counting
def b_walked_L1 : SM := (seqO (dsetO 2 (vN 1) (brw false (opA gLen (aC (vN 3) aN))))
  (seqO (appO 3 (vN 1))
  (seqO (asgO (callM m_on (aC (vN 0) (aC (vN 1) aN))) (setS 1))
  (ifO (tst (op2 gEq (brw false (opA gLen (aC (vN 3) aN))) (cD (.int 20000)))) (raiseO "Full") nxO))))
def b_walked : SM := (seqO (parO [2, 3] (xOw (cD (.dict [])) (xOw (opA gLstD aN) xN)))
  (seqO (whileO 100000 (brwT false (tst (op2 gNotInX (vN 1) (vN 2)))) b_walked_L1)
  (demO false (retO (opA gTupD (aC (vN 3) (aC (op2 gIxX (vN 2) (vN 1)) aN)))))))
def m_walked : List PyData → R PyData := fnRun 2 4 b_walked
def b_round_of : SM := (seqO (dropO (callM m_need_both (aC (vN 0) (aC (vN 1) aN))))
  (seqO (asgO (callM m_walked (aC (vN 0) (aC (vN 1) aN))) (unT (gsC (setS 2) (gsC (setS 3) gsN))))
  (retO (opA gTupD (aC (vN 3) (aC (op2 gSub (opA gLen (aC (vN 2) aN)) (vN 3)) aN))))))
def m_round_of : List PyData → R PyData := fnRun 2 4 b_round_of
def b_is_lead : SM := (seqO (ifO (orT (notT (tst (isi .tuple (vN 1)))) (orT (tst (op2 gNe (opA gLen (aC (vN 1) aN)) (cD (.int 2)))) (notT (tst (callM m_is_whole (aC (op2 gIx (vN 1) (cD (.int 0))) (aC (cD (.int 0)) (aC (op2 gSub (cD (.int 500)) (cD (.int 1))) aN)))))))) (retO (cD (.bool false))) nxO)
  (retO (andV (isi .str (op2 gIx (vN 1) (cD (.int 1)))) (andV (op2 gIn (op2 gIx (vN 1) (cD (.int 1))) (callM m_all_names (aC (vN 0) aN))) (callM m_is_whole (aC (vN 2) (aC (cD (.int 0)) (aC (op2 gSub (op2 gIx (vN 0) (cD (.int 0))) (cD (.int 1))) aN))))))))
def m_is_lead : List PyData → R PyData := fnRun 3 3 b_is_lead
def b_need_leads : SM := (ifO (orT (notT (tst (isi .dict (vN 1)))) (notT (tst (opA gAll (aC (lcM [2] (dictI (vN 1)) (setS 2) yesT (callM m_is_lead (aC (vN 0) (aC (vN 2) (aC (op2 gIxX (vN 1) (vN 2)) aN))))) aN))))) (raiseO "BadLead") nxO)
def m_need_leads : List PyData → R PyData := fnRun 2 3 b_need_leads
def b_led_lines : SM := (seqO (asgO (opA gLZip (aC (callM m_all_names (aC (vN 0) aN)) (aC (callM m_all_next (aC (vN 0) (aC (vN 1) aN))) aN))) (setS 4))
  (retO (opA gTuple (aC (lcM [5, 6] (seqI (vN 4)) (unT (gsC (setS 5) (gsC (setS 6) gsN))) yesT (dget2 (vN 2) (opA gTupD (aC (vN 3) (aC (vN 5) aN))) (vN 6))) aN))))
def m_led_lines : List PyData → R PyData := fnRun 4 7 b_led_lines
def b_led_rows_L1 : SM := (seqO (appO 5 (vN 1))
  (seqO (appO 4 (callM m_led_lines (aC (vN 0) (aC (vN 1) (aC (vN 2) (aC (vN 6) aN))))))
  (asgO (callM m_behind (aC (vN 1) (aC (ixO 4 (op1 gNeg (cD (.int 1)))) aN))) (setS 1))))
def b_led_rows : SM := (seqO (parO [4, 5] (xOw (opA gLstD aN) (xOw (opA gLstD aN) xN)))
  (seqO (forO (opI rg1 (aC (vN 3) aN)) (setS 6) b_led_rows_L1)
  (demO false (retO (opA gTupD (aC (vN 4) (aC (vN 5) aN)))))))
def m_led_rows : List PyData → R PyData := fnRun 4 7 b_led_rows
def b_led_song : SM := (seqO (dropO (callM m_need_both (aC (vN 0) (aC (vN 1) aN))))
  (seqO (dropO (callM m_need_leads (aC (vN 0) (aC (vN 2) aN))))
  (seqO (dropO (callM m_need_beats (aC (vN 3) aN)))
  (retO (op2 gIx (callM m_led_rows (aC (vN 0) (aC (vN 1) (aC (vN 2) (aC (vN 3) aN))))) (cD (.int 0)))))))
def m_led_song : List PyData → R PyData := fnRun 4 4 b_led_song
def b_is_good_wish (self_ : List PyData → R PyData) : SM := (seqO (ifO (orT (tst (op2 gEq (vN 2) (cD (.int 0)))) (orT (notT (tst (isi .tuple (vN 1)))) (orT (tst (op2 gEq (vN 1) (opA gTupD aN))) (notT (tst (isi .str (op2 gIx (vN 1) (cD (.int 0))))))))) (retO (cD (.bool false))) nxO)
  (seqO (ifO (andT (tst (op2 gEq (op2 gIx (vN 1) (cD (.int 0))) (cD (.str "sings")))) (tst (op2 gEq (opA gLen (aC (vN 1) aN)) (cD (.int 3))))) (retO (andV (isi .str (op2 gIx (vN 1) (cD (.int 1)))) (andV (op2 gIn (op2 gIx (vN 1) (cD (.int 1))) (callM m_all_names (aC (vN 0) aN))) (callM m_is_whole (aC (op2 gIx (vN 1) (cD (.int 2))) (aC (cD (.int 0)) (aC (op2 gSub (op2 gIx (vN 0) (cD (.int 0))) (cD (.int 1))) aN))))))) nxO)
  (seqO (ifO (andT (tst (op2 gEq (op2 gIx (vN 1) (cD (.int 0))) (cD (.str "not")))) (tst (op2 gEq (opA gLen (aC (vN 1) aN)) (cD (.int 2))))) (retO (callM self_ (aC (vN 0) (aC (op2 gIx (vN 1) (cD (.int 1))) (aC (op2 gSub (vN 2) (cD (.int 1))) aN))))) nxO)
  (seqO (ifO (andT (tst (op2 gEq (op2 gIx (vN 1) (cD (.int 0))) (cD (.str "both")))) (tst (op2 gEq (opA gLen (aC (vN 1) aN)) (cD (.int 3))))) (retO (andV (callM self_ (aC (vN 0) (aC (op2 gIx (vN 1) (cD (.int 1))) (aC (op2 gSub (vN 2) (cD (.int 1))) aN)))) (callM self_ (aC (vN 0) (aC (op2 gIx (vN 1) (cD (.int 2))) (aC (op2 gSub (vN 2) (cD (.int 1))) aN)))))) nxO)
  (retO (op2 gEq (vN 1) (opA gTupD (aC (cD (.str "one")) aN))))))))
def mk_is_good_wish : Nat → List PyData → R PyData
  | 0 => fnRun 3 3 badO
  | k + 1 => fnRun 3 3 (b_is_good_wish (mk_is_good_wish k))
def m_is_good_wish : List PyData → R PyData := mk_is_good_wish 8
def b_need_wish : SM := (ifO (notT (tst (callM m_is_good_wish (aC (vN 0) (aC (vN 1) (aC (cD (.int 4)) aN)))))) (raiseO "BadWish") nxO)
def m_need_wish : List PyData → R PyData := fnRun 2 2 b_need_wish
def b_holds (self_ : List PyData → R PyData) : SM := (seqO (ifO (tst (op2 gEq (op2 gIx (vN 2) (cD (.int 0))) (cD (.str "sings")))) (retO (op2 gEq (op2 gIx (vN 1) (opM gIndex (callM m_all_names (aC (vN 0) aN)) (aC (op2 gIx (vN 2) (cD (.int 1))) aN))) (op2 gIx (vN 2) (cD (.int 2))))) nxO)
  (seqO (ifO (tst (op2 gEq (op2 gIx (vN 2) (cD (.int 0))) (cD (.str "not")))) (retO (notV (callM self_ (aC (vN 0) (aC (vN 1) (aC (op2 gIx (vN 2) (cD (.int 1))) aN)))))) nxO)
  (seqO (ifO (tst (op2 gEq (op2 gIx (vN 2) (cD (.int 0))) (cD (.str "both")))) (retO (andV (callM self_ (aC (vN 0) (aC (vN 1) (aC (op2 gIx (vN 2) (cD (.int 1))) aN)))) (callM self_ (aC (vN 0) (aC (vN 1) (aC (op2 gIx (vN 2) (cD (.int 2))) aN)))))) nxO)
  (retO (op2 gEq (op1 setLen (vN 1)) (cD (.int 1)))))))
def mk_holds : Nat → List PyData → R PyData
  | 0 => fnRun 3 3 badO
  | k + 1 => fnRun 3 3 (b_holds (mk_holds k))
def m_holds : List PyData → R PyData := mk_holds 8
def b_granted : SM := (seqO (dropO (callM m_need_choir (aC (vN 0) aN)))
  (seqO (ifO (notT (tst (callM m_are_lines (aC (vN 1) (aC (opA gLen (aC (op2 gIx (vN 0) (cD (.int 1))) aN)) (aC (op2 gIx (vN 0) (cD (.int 0))) aN)))))) (raiseO "BadRows") nxO)
  (seqO (dropO (callM m_need_wish (aC (vN 0) (aC (vN 2) aN))))
  (retO (callM m_holds (aC (vN 0) (aC (vN 1) (aC (vN 2) aN))))))))
def m_granted : List PyData → R PyData := fnRun 3 3 b_granted
def b_need_stretch : SM := (seqO (ifO (orT (notT (tst (isi .list (vN 1)))) (notT (tst (chain gLe gLe (cD (.int 4)) (opA gLen (aC (vN 1) aN)) (cD (.int 60)))))) (raiseO "BadRows") nxO)
  (ifO (notT (tst (opA gAll (aC (lcM [2] (seqI (vN 1)) (setS 2) yesT (callM m_are_lines (aC (vN 2) (aC (opA gLen (aC (op2 gIx (vN 0) (cD (.int 1))) aN)) (aC (op2 gIx (vN 0) (cD (.int 0))) aN))))) aN)))) (raiseO "BadRows") nxO))
def m_need_stretch : List PyData → R PyData := fnRun 2 3 b_need_stretch
def b_need_asked_2 : SM := (seqO (dropO (callM m_need_choir (aC (vN 0) aN)))
  (dropO (callM m_need_stretch (aC (vN 0) (aC (vN 1) aN)))))
def m_need_asked_2 : List PyData → R PyData := fnRun 2 2 b_need_asked_2
def b_place_at : SM := (retO (callM m_place_of (aC (op2 gIx (vN 0) (cD (.int 0))) (aC (lcM [4, 5] (seqI (vN 2)) (unT (gsC (setS 4) (gsC (setS 5) gsN))) yesT (op2 gIx (op2 gIx (vN 1) (op2 gSub (vN 3) (vN 5))) (callM m_number_of (aC (vN 0) (aC (vN 4) aN))))) aN))))
def m_place_at : List PyData → R PyData := fnRun 4 6 b_place_at
def b_slip_of_L1 : SM := (ifO (tst (op2 gNe (op2 gIx (vN 6) (callM m_place_at (aC (vN 0) (aC (vN 1) (aC (vN 5) (aC (vN 2) aN)))))) (op2 gIx (op2 gIx (vN 1) (vN 2)) (vN 3)))) (retO (opA gTupD (aC (vN 2) (aC (vN 4) aN)))) nxO)
def b_slip_of_L2 : SM := (forO (opI gEnum (aC (op2 gIx (vN 0) (cD (.int 1))) aN)) (unT (gsC (setS 3) (gsC (unT (gsC (setS 4) (gsC (setS 5) (gsC (setS 6) gsN)))) gsN))) b_slip_of_L1)
def b_slip_of : SM := (seqO (forO (opI rg2 (aC (cD (.int 3)) (aC (opA gLen (aC (vN 1) aN)) aN))) (setS 2) b_slip_of_L2)
  (retO (cD .none)))
def m_slip_of : List PyData → R PyData := fnRun 2 7 b_slip_of
def b_fits : SM := (seqO (dropO (callM m_need_asked_2 (aC (vN 0) (aC (vN 1) aN))))
  (retO (op2 gIs (callM m_slip_of (aC (vN 0) (aC (vN 1) aN))) (cD .none))))
def m_fits : List PyData → R PyData := fnRun 2 2 b_fits
def b_asked_of_L1 : SM := (seqO (par2 7 8 (aC (callM m_place_at (aC (vN 0) (aC (vN 1) (aC (vN 3) (aC (vN 6) aN))))) (aC (op2 gIx (op2 gIx (vN 1) (vN 6)) (vN 2)) aN)))
  (seqO (ifO (brwT false (tst (op2 gIs (op2 gIx (vN 5) (vN 7)) (cD .none)))) (sixO 5 (vN 7) (vN 8)) nxO)
  (seqO (ifO (brwT false (tst (op2 gNe (op2 gIx (vN 5) (vN 7)) (vN 8)))) (demO false (retO (opA gTupD (aC (vN 5) (aC (opA gTupD (aC (op2 gIxX (vN 4) (opA gTupD (aC (vN 7) (aC (op2 gIx (vN 5) (vN 7)) aN)))) (aC (vN 6) aN))) aN))))) nxO)
  (dsdO 4 (opA gTupD (aC (vN 7) (aC (vN 8) aN))) (vN 6)))))
def b_asked_of : SM := (seqO (parO [4, 5] (xOw (cD (.dict [])) (xOw (op2 gRepD (opA gLstD (aC (cD .none) aN)) (callM m_places_for (aC (op2 gIx (vN 0) (cD (.int 0))) (aC (vN 3) aN)))) xN)))
  (seqO (forO (opI rg2 (aC (cD (.int 3)) (aC (opA gLen (aC (vN 1) aN)) aN))) (setS 6) b_asked_of_L1)
  (demO false (retO (opA gTupD (aC (vN 5) (aC (cD .none) aN)))))))
def m_asked_of : List PyData → R PyData := fnRun 4 9 b_asked_of
def b_own_ears : SM := (retO (op2 gIx (op2 gIx (op2 gIx (vN 0) (cD (.int 1))) (callM m_number_of (aC (vN 0) (aC (vN 1) aN)))) (cD (.int 1))))
def m_own_ears : List PyData → R PyData := fnRun 2 2 b_own_ears
def b_need_first_rows : SM := (seqO (ifO (orT (notT (tst (isi .list (vN 1)))) (tst (op2 gGt (opA gLen (aC (vN 1) aN)) (cD (.int 6))))) (raiseO "BadRows") nxO)
  (ifO (notT (tst (opA gAll (aC (lcM [2] (seqI (vN 1)) (setS 2) yesT (callM m_are_lines (aC (vN 2) (aC (opA gLen (aC (op2 gIx (vN 0) (cD (.int 1))) aN)) (aC (op2 gIx (vN 0) (cD (.int 0))) aN))))) aN)))) (raiseO "BadRows") nxO))
def m_need_first_rows : List PyData → R PyData := fnRun 2 3 b_need_first_rows
def b_spots_for_L1 : SM := (seqO (asgO (callM m_number_of (aC (vN 0) (aC (vN 5) aN))) (setS 7))
  (appO 4 (ifV (tst (op2 gGe (vN 3) (vN 6))) (op2 gIx (op2 gIx (vN 1) (op2 gSub (vN 3) (vN 6))) (vN 7)) (opA gTupD (aC (vN 7) (aC (op2 gSub (vN 6) (vN 3)) aN))))))
def b_spots_for : SM := (seqO (ownO 4 aN)
  (seqO (forO (seqI (vN 2)) (unT (gsC (setS 5) (gsC (setS 6) gsN))) b_spots_for_L1)
  (demO false (retO (vN 4)))))
def m_spots_for : List PyData → R PyData := fnRun 4 8 b_spots_for
def b_lines_for : SM := (retO (lcM [2] (seqI (vN 1)) (setS 2) yesT (ifV (tst (isi .tuple (vN 2))) (op2 gIxX (vN 0) (vN 2)) (vN 2))))
def m_lines_for : List PyData → R PyData := fnRun 2 3 b_lines_for
def b_widened_L1 : SM := (seqO (ownFO 8 (opA gDictC (aC (vN 6) aN)))
  (seqO (dsetO 8 (vN 4) (vN 7))
  (letO 8 (appO 5 (vN 8)))))
def b_widened_L2 : SM := (forO (opI rg1 (aC (vN 0) aN)) (setS 7) b_widened_L1)
def b_widened_L3 : SM := (ifO (andT (tst (isi .tuple (vN 4))) (tst (op2 gNotInX (vN 4) (vN 1)))) (seqO (ownO 5 aN)
  (seqO (forO (seqI (vN 3)) (setS 6) b_widened_L2)
  (movO 3 5))) nxO)
def b_widened : SM := (seqO (asgO (opA gLstD (aC (vN 1) aN)) (setS 3))
  (seqO (forO (seqI (vN 2)) (setS 4) b_widened_L3)
  (retO (vN 3))))
def m_widened : List PyData → R PyData := fnRun 3 9 b_widened
def b_all_known_L1 : SM := (ifO (tst (op2 gEq (op2 gIx (vN 9) (callM m_place_of (aC (op2 gIx (vN 0) (cD (.int 0))) (aC (callM m_lines_for (aC (vN 13) (aC (vN 10) aN))) aN)))) (op2 gIx (vN 5) (vN 6)))) (appO 11 (vN 13)) nxO)
def b_all_known_L2 : SM := (forO (seqI (callM m_widened (aC (op2 gIx (vN 0) (cD (.int 0))) (aC (vN 12) (aC (vN 10) aN))))) (setS 13) b_all_known_L1)
def b_all_known_L3 : SM := (seqO (parO [10, 11] (xSh (callM m_spots_for (aC (vN 0) (aC (vN 1) (aC (vN 8) (aC (vN 4) aN))))) (xOw (opA gLstD aN) xN)))
  (seqO (forO (seqI (vN 2)) (setS 12) b_all_known_L2)
  (movO 2 11)))
def b_all_known_L4 : SM := (forO (opI gEnum (aC (op2 gIx (vN 3) (cD (.int 1))) aN)) (unT (gsC (setS 6) (gsC (unT (gsC (setS 7) (gsC (setS 8) (gsC (setS 9) gsN)))) gsN))) b_all_known_L3)
def b_all_known : SM := (seqO (par2 2 3 (aC (opA gLstD (aC (cD (.dict [])) aN)) (aC (callM m_leaned (aC (vN 0) aN)) aN)))
  (seqO (forO (opI gEnum (aC (vN 1) aN)) (unT (gsC (setS 4) (gsC (setS 5) gsN))) b_all_known_L4)
  (seqO (ifO (tst (op2 gGt (opA gLen (aC (vN 2) aN)) (cD (.int 500)))) (raiseO "Full") nxO)
  (retO (vN 2)))))
def m_all_known : List PyData → R PyData := fnRun 2 14 b_all_known
def b_as_standing_L1 : SM := (appO 2 (opA gTuple (aC (lcM [4] (seqI (opA gTupD (aC (cD (.int 3)) (aC (cD (.int 2)) (aC (cD (.int 1)) aN))))) (setS 4) yesT (dget2 (vN 1) (opA gTupD (aC (vN 3) (aC (vN 4) aN))) (cD (.int 0)))) aN)))
def b_as_standing : SM := (seqO (ownO 2 aN)
  (seqO (forO (opI rg1 (aC (opA gLen (aC (op2 gIx (vN 0) (cD (.int 1))) aN)) aN)) (setS 3) b_as_standing_L1)
  (retO (brw false (opA gTuple (aC (vN 2) aN))))))
def m_as_standing : List PyData → R PyData := fnRun 2 5 b_as_standing
def b_must_begin_L1 : SM := (seqO (asgO (lcM [7] (opI rg1 (aC (cD (.int 3)) aN)) (setS 7) yesT (op1 gSortI (lcM [9] (seqI (vN 2)) (setS 9) yesT (op2 gIx (op2 gIx (vN 9) (vN 4)) (vN 7))))) (setS 5))
  (appO 3 (opA gTuple (aC (lcM [8] (seqI (vN 5)) (setS 8) yesT (ifV (tst (op2 gEq (opA gLen (aC (vN 8) aN)) (cD (.int 1)))) (op2 gIx (vN 8) (cD (.int 0))) (cD .none))) aN))))
def b_must_begin : SM := (seqO (dropO (callM m_need_choir (aC (vN 0) aN)))
  (seqO (dropO (callM m_need_first_rows (aC (vN 0) (aC (vN 1) aN))))
  (seqO (asgO (lcM [6] (seqI (callM m_all_known (aC (vN 0) (aC (vN 1) aN)))) (setS 6) yesT (callM m_as_standing (aC (vN 0) (aC (vN 6) aN)))) (setS 2))
  (seqO (ifO (tst (op2 gEq (vN 2) (opA gLstD aN))) (raiseO "Nothing") nxO)
  (seqO (ownO 3 aN)
  (seqO (forO (opI rg1 (aC (opA gLen (aC (op2 gIx (vN 0) (cD (.int 1))) aN)) aN)) (setS 4) b_must_begin_L1)
  (retO (brw false (opA gTuple (aC (vN 3) aN))))))))))
def m_must_begin : List PyData → R PyData := fnRun 2 10 b_must_begin
def b_figures_in : SM := (seqO (ifO (orT (tst (op2 gEq (vN 0) (cD (.str "")))) (notT (tst (opA gAll (aC (lcM [1] (seqI (vN 0)) (setS 1) yesT (op2 gIn (vN 1) (cD (.str "0123")))) aN))))) (raiseO "BadText") nxO)
  (retO (opA gTuple (aC (lcM [1] (seqI (vN 0)) (setS 1) yesT (opA gIntS (aC (vN 1) aN))) aN))))
def m_figures_in : List PyData → R PyData := fnRun 1 2 b_figures_in
def b_ear_in : SM := (seqO (asgO (opS gSplit (vN 0) (cD (.str "-"))) (setS 1))
  (seqO (ifO (orT (tst (op2 gNe (opA gLen (aC (vN 1) aN)) (cD (.int 2)))) (tst (op2 gNe (opA gLen (aC (op2 gIx (vN 1) (cD (.int 1))) aN)) (cD (.int 1))))) (raiseO "BadText") nxO)
  (retO (opA gTupD (aC (op2 gIx (vN 1) (cD (.int 0))) (aC (op2 gIx (callM m_figures_in (aC (op2 gIx (vN 1) (cD (.int 1))) aN)) (cD (.int 0))) aN))))))
def m_ear_in : List PyData → R PyData := fnRun 1 2 b_ear_in
def b_singer_in : SM := (seqO (asgO (opS gSplit (vN 0) (cD (.str " "))) (setS 1))
  (seqO (ifO (orT (tst (op2 gLt (opA gLen (aC (vN 1) aN)) (cD (.int 3)))) (tst (op2 gNe (op2 gIx (vN 1) (op1 gNeg (cD (.int 2)))) (cD (.str ":"))))) (raiseO "BadText") nxO)
  (retO (opA gTupD (aC (op2 gIx (vN 1) (cD (.int 0))) (aC (opA gTuple (aC (lcMX [2] (seqI (slc (vN 1) (prt (cD (.int 1))) (prt (op1 gNeg (cD (.int 2)))))) (setS 2) yesT (callM m_ear_in (aC (vN 2) aN))) aN)) (aC (callM m_figures_in (aC (op2 gIx (vN 1) (op1 gNeg (cD (.int 1)))) aN)) aN)))))))
def m_singer_in : List PyData → R PyData := fnRun 1 3 b_singer_in
def b_read_choir : SM := (seqO (ifO (notT (tst (isi .str (vN 0)))) (raiseO "BadText") nxO)
  (seqO (asgO (opS gSplit (vN 0) (cD (.str "\n"))) (setS 1))
  (seqO (ifO (tst (op2 gNotIn (op2 gIx (vN 1) (cD (.int 0))) (opA gTupD (aC (cD (.str "2")) (aC (cD (.str "3")) (aC (cD (.str "4")) aN)))))) (raiseO "BadText") nxO)
  (seqO (asgO (opA gTupD (aC (opA gIntS (aC (op2 gIx (vN 1) (cD (.int 0))) aN)) (aC (opA gTuple (aC (lcMX [3] (seqI (slc (vN 1) (prt (cD (.int 1))) noPrt)) (setS 3) yesT (callM m_singer_in (aC (vN 3) aN))) aN)) aN))) (setS 2))
  (seqO (ifO (orT (notT (tst (callM m_is_choir (aC (vN 2) aN)))) (tst (op2 gNe (callM m_choir_text (aC (vN 2) aN)) (vN 0)))) (raiseO "BadText") nxO)
  (retO (vN 2)))))))
def m_read_choir : List PyData → R PyData := fnRun 1 4 b_read_choir
end G
set_option Elab.async false
set_option linter.all false
set_option maxRecDepth 100000
set_option maxHeartbeats 4000000
namespace G
open PySem PySem.Spec PyProof.Rows L2 DL
def bx_tables : HD.SX := (HD.seqX (HD.upX (dropO (callM m_need_asked_2 (aC (vN 0) (aC (vN 1) aN)))))
  (HD.seqX (HD.upX (dropO (callM m_need_name (aC (vN 0) (aC (vN 2) aN)))))
  (HD.seqX (HD.upX (asgO (callM m_asked_of (aC (vN 0) (aC (vN 1) (aC (callM m_number_of (aC (vN 0) (aC (vN 2) aN))) (aC (callM m_own_ears (aC (vN 0) (aC (vN 2) aN))) aN))))) (unT (gsC (setS 3) (gsC (setS 4) gsN)))))
  (HD.seqX (HD.ifX (tst (op2 gIsNot (vN 4) (cD .none))) (HD.raiseX (vN 4)) (HD.upX nxO))
  (HD.upX (retO (opA gTuple (aC (vN 3) aN))))))))
def x_tables : List PyData → HD.RX := HD.fnRunX 3 5 bx_tables
def ba_law_alone (c : Str) : SM := (seqO (asgO (opA gLstD (aC (HD.isE c "BadChoir") (aC (HD.isE c "BadName") (aC (HD.isE c "BadStanding") aN)))) (setS 2))
  (seqO (asgO (op2 gAdd (vN 2) (opA gLstD (aC (HD.isE c "BadNumber") aN))) (setS 2))
  (seqO (asgO (op2 gAdd (vN 2) (opA gLstD (aC (HD.isE c "BadRows") (aC (HD.isE c "BadLead") (aC (HD.isE c "BadWish") aN))))) (setS 2))
  (seqO (asgO (op2 gAdd (vN 2) (opA gLstD (aC (HD.isE c "Clash") (aC (HD.isE c "Nothing") (aC (HD.isE c "BadText") aN))))) (setS 2))
  (retO (andV (cD (.bool true)) (op2 gEq (vN 2) (lcM [3] (opI rg1 (aC (cD (.int 10)) aN)) (setS 3) yesT (op2 gEq (vN 3) (vN 1))))))))))
theorem v_law_alone : ∀ (i : Nat) (c : Str), HD.ten[i]? = some c → ∃ ρ', ba_law_alone c [.no, .sh (.int (i : Nat)), .no, .no] = .rt (.bool true) ρ' := by
  intro i c h
  match i, h with
  | 0, h => cases h; exact ⟨_, rfl⟩
  | 1, h => cases h; exact ⟨_, rfl⟩
  | 2, h => cases h; exact ⟨_, rfl⟩
  | 3, h => cases h; exact ⟨_, rfl⟩
  | 4, h => cases h; exact ⟨_, rfl⟩
  | 5, h => cases h; exact ⟨_, rfl⟩
  | 6, h => cases h; exact ⟨_, rfl⟩
  | 7, h => cases h; exact ⟨_, rfl⟩
  | 8, h => cases h; exact ⟨_, rfl⟩
  | 9, h => cases h; exact ⟨_, rfl⟩
  | i + 10, h => cases h
def b_law_M : SM := (HD.metsO 5 (HD.metE (callM m_names (aC (opA gTupD (aC (op2 gAdd (cD (.int 4)) (vN 2)) (aC (op2 gIx (vN 3) (cD (.int 1))) aN))) aN))) [(HD.metE (callM m_counting (aC (vN 3) (aC (op2 gMulT (cD (.str "z")) (vN 2)) aN)))), (HD.metE (callM m_round_of (aC (vN 3) (aC (op2 gMul (vN 4) (op2 gAdd (cD (.int 1)) (vN 2))) aN)))), (HD.metE (callM m_song (aC (vN 3) (aC (vN 4) (aC (op2 gAdd (cD (.int 500)) (vN 2)) aN))))), (HD.metE (callM m_fits (aC (vN 3) (aC (op2 gMul (opA gLstD (aC (opA gTupD (aC (cD (.int 0)) aN)) aN)) (op2 gAdd (cD (.int 60)) (vN 2))) aN)))), (HD.metE (callM m_led_song (aC (vN 3) (aC (vN 4) (aC (op2 gD1 (opA gTupD (aC (op2 gAdd (cD (.int 499)) (vN 2)) (aC (cD (.str "ann")) aN))) (cD (.int 0))) (aC (cD (.int 1)) aN)))))), (HD.metE (callM m_granted (aC (vN 3) (aC (opA gTupD (aC (cD (.int 0)) aN)) (aC (opA gTupD (aC (cD (.str "sings")) (aC (cD (.str "ann")) (aC (op2 gAdd (cD (.int 1)) (vN 2)) aN)))) aN))))), (HD.metC x_tables (aC (vN 3) (aC (op2 gAdd (op2 gMul (opA gLstD (aC (opA gTupD (aC (cD (.int 0)) aN)) aN)) (op2 gAdd (cD (.int 3)) (vN 2))) (opA gLstD (aC (opA gTupD (aC (cD (.int 1)) aN)) aN))) (aC (cD (.str "ann")) aN)))), (HD.metE (callM m_must_begin (aC (vN 3) (aC (opA gLstD (aC (opA gTupD (aC (cD (.int 1)) aN)) aN)) aN)))), (HD.metE (callM m_read_choir (aC (op2 gMulT (cD (.str "-")) (vN 2)) aN)))] (HD.finE fun dat_ => (orT (notT (tst (opA gAll (aC (HD.alonesM 6 7) aN)))) (tst (op2 gNe (cD dat_) (opA gTupD (aC (cD (.int 3)) (aC (op2 gAdd (cD (.int 3)) (vN 2)) aN))))))))
def b_law : SM := (seqO (asgO (opA gTupD (aC (op2 gAdd (cD (.int 1)) (callL 1 m_law_roll (aC (cD (.int 9)) aN))) (aC (opA gTupD (aC (cD (.int 2)) (aC (opA gTupD (aC (opA gTupD (aC (cD (.str "ann")) (aC (opA gTupD aN) (aC (opA gTupD (aC (cD (.int 0)) aN)) aN)))) aN)) aN))) aN))) (unT (gsC (setS 2) (gsC (setS 3) gsN))))
  (seqO (asgO (opA gTupD (aC (opA gTupD (aC (cD (.int 0)) (aC (cD (.int 0)) (aC (cD (.int 0)) aN)))) aN)) (setS 4))
  b_law_M))
abbrev law_n : Nat := 8
abbrev law_di : Nat := 1
end G
set_option Elab.async false
set_option linter.all false
set_option maxRecDepth 100000
set_option maxHeartbeats 4000000
namespace G
open PySem PySem.Spec PyProof.Rows L2 DL
variable [TabCtx]
structure Tx (K : PySem.W.Frag) (mg : Str → Option Value) : Prop where
  f_is_whole : ∃ fd, FunD K "is_whole" "is_whole" (defArgs s_is_whole) (defBody s_is_whole) (defScope s_is_whole) [] [] (He.ga K "is_whole") fd
  g_is_whole : mg "is_whole" = some (.ref (He.ga K "is_whole"))
  f_is_word : ∃ fd, FunD K "is_word" "is_word" (defArgs s_is_word) (defBody s_is_word) (defScope s_is_word) [] [] (He.ga K "is_word") fd
  g_is_word : mg "is_word" = some (.ref (He.ga K "is_word"))
  f_rise : ∃ fd, FunD K "rise" "rise" (defArgs s_rise) (defBody s_rise) (defScope s_rise) [] [] (He.ga K "rise") fd
  g_rise : mg "rise" = some (.ref (He.ga K "rise"))
  f_are_lines : ∃ fd, FunD K "are_lines" "are_lines" (defArgs s_are_lines) (defBody s_are_lines) (defScope s_are_lines) [] [] (He.ga K "are_lines") fd
  g_are_lines : mg "are_lines" = some (.ref (He.ga K "are_lines"))
  f_is_ear : ∃ fd, FunD K "is_ear" "is_ear" (defArgs s_is_ear) (defBody s_is_ear) (defScope s_is_ear) [] [] (He.ga K "is_ear") fd
  g_is_ear : mg "is_ear" = some (.ref (He.ga K "is_ear"))
  f_are_ears : ∃ fd, FunD K "are_ears" "are_ears" (defArgs s_are_ears) (defBody s_are_ears) (defScope s_are_ears) [] [] (He.ga K "are_ears") fd
  g_are_ears : mg "are_ears" = some (.ref (He.ga K "are_ears"))
  f_places_for : ∃ fd, FunD K "places_for" "places_for" (defArgs s_places_for) (defBody s_places_for) (defScope s_places_for) [] [] (He.ga K "places_for") fd
  g_places_for : mg "places_for" = some (.ref (He.ga K "places_for"))
  f_is_singer : ∃ fd, FunD K "is_singer" "is_singer" (defArgs s_is_singer) (defBody s_is_singer) (defScope s_is_singer) [] [] (He.ga K "is_singer") fd
  g_is_singer : mg "is_singer" = some (.ref (He.ga K "is_singer"))
  f_is_choir : ∃ fd, FunD K "is_choir" "is_choir" (defArgs s_is_choir) (defBody s_is_choir) (defScope s_is_choir) [] [] (He.ga K "is_choir") fd
  g_is_choir : mg "is_choir" = some (.ref (He.ga K "is_choir"))
  f_need_choir : ∃ fd, FunD K "need_choir" "need_choir" (defArgs s_need_choir) (defBody s_need_choir) (defScope s_need_choir) [] [] (He.ga K "need_choir") fd
  g_need_choir : mg "need_choir" = some (.ref (He.ga K "need_choir"))
  f_all_names : ∃ fd, FunD K "all_names" "all_names" (defArgs s_all_names) (defBody s_all_names) (defScope s_all_names) [] [] (He.ga K "all_names") fd
  g_all_names : mg "all_names" = some (.ref (He.ga K "all_names"))
  f_names : ∃ fd, FunD K "names" "names" (defArgs s_names) (defBody s_names) (defScope s_names) [] [] (He.ga K "names") fd
  g_names : mg "names" = some (.ref (He.ga K "names"))
  f_is_good_standing : ∃ fd, FunD K "is_good_standing" "is_good_standing" (defArgs s_is_good_standing) (defBody s_is_good_standing) (defScope s_is_good_standing) [] [] (He.ga K "is_good_standing") fd
  g_is_good_standing : mg "is_good_standing" = some (.ref (He.ga K "is_good_standing"))
  f_need_standing : ∃ fd, FunD K "need_standing" "need_standing" (defArgs s_need_standing) (defBody s_need_standing) (defScope s_need_standing) [] [] (He.ga K "need_standing") fd
  g_need_standing : mg "need_standing" = some (.ref (He.ga K "need_standing"))
  f_need_name : ∃ fd, FunD K "need_name" "need_name" (defArgs s_need_name) (defBody s_need_name) (defScope s_need_name) [] [] (He.ga K "need_name") fd
  g_need_name : mg "need_name" = some (.ref (He.ga K "need_name"))
  f_number_of : ∃ fd, FunD K "number_of" "number_of" (defArgs s_number_of) (defBody s_number_of) (defScope s_number_of) [] [] (He.ga K "number_of") fd
  g_number_of : mg "number_of" = some (.ref (He.ga K "number_of"))
  f_heard_by : ∃ fd, FunD K "heard_by" "heard_by" (defArgs s_heard_by) (defBody s_heard_by) (defScope s_heard_by) [] [] (He.ga K "heard_by") fd
  g_heard_by : mg "heard_by" = some (.ref (He.ga K "heard_by"))
  f_place_of : ∃ fd, FunD K "place_of" "place_of" (defArgs s_place_of) (defBody s_place_of) (defScope s_place_of) [] [] (He.ga K "place_of") fd
  g_place_of : mg "place_of" = some (.ref (He.ga K "place_of"))
  f_table_line : ∃ fd, FunD K "table_line" "table_line" (defArgs s_table_line) (defBody s_table_line) (defScope s_table_line) [] [] (He.ga K "table_line") fd
  g_table_line : mg "table_line" = some (.ref (He.ga K "table_line"))
  f_all_next : ∃ fd, FunD K "all_next" "all_next" (defArgs s_all_next) (defBody s_all_next) (defScope s_all_next) [] [] (He.ga K "all_next") fd
  g_all_next : mg "all_next" = some (.ref (He.ga K "all_next"))
  f_behind : ∃ fd, FunD K "behind" "behind" (defArgs s_behind) (defBody s_behind) (defScope s_behind) [] [] (He.ga K "behind") fd
  g_behind : mg "behind" = some (.ref (He.ga K "behind"))
  f_on : ∃ fd, FunD K "on" "on" (defArgs s_on) (defBody s_on) (defScope s_on) [] [] (He.ga K "on") fd
  g_on : mg "on" = some (.ref (He.ga K "on"))
  f_need_stretch : ∃ fd, FunD K "need_stretch" "need_stretch" (defArgs s_need_stretch) (defBody s_need_stretch) (defScope s_need_stretch) [] [] (He.ga K "need_stretch") fd
  g_need_stretch : mg "need_stretch" = some (.ref (He.ga K "need_stretch"))
  f_need_asked_2 : ∃ fd, FunD K "need_asked" "need_asked" (defArgs s_need_asked_2) (defBody s_need_asked_2) (defScope s_need_asked_2) [] [] (He.ga K "need_asked") fd
  g_need_asked_2 : mg "need_asked" = some (.ref (He.ga K "need_asked"))
  f_place_at : ∃ fd, FunD K "place_at" "place_at" (defArgs s_place_at) (defBody s_place_at) (defScope s_place_at) [] [] (He.ga K "place_at") fd
  g_place_at : mg "place_at" = some (.ref (He.ga K "place_at"))
  f_slip_of : ∃ fd, FunD K "slip_of" "slip_of" (defArgs s_slip_of) (defBody s_slip_of) (defScope s_slip_of) [] [] (He.ga K "slip_of") fd
  g_slip_of : mg "slip_of" = some (.ref (He.ga K "slip_of"))
  f_fits : ∃ fd, FunD K "fits" "fits" (defArgs s_fits) (defBody s_fits) (defScope s_fits) [] [] (He.ga K "fits") fd
  g_fits : mg "fits" = some (.ref (He.ga K "fits"))
  f_asked_of : ∃ fd, FunD K "asked_of" "asked_of" (defArgs s_asked_of) (defBody s_asked_of) (defScope s_asked_of) [] [] (He.ga K "asked_of") fd
  g_asked_of : mg "asked_of" = some (.ref (He.ga K "asked_of"))
  f_own_ears : ∃ fd, FunD K "own_ears" "own_ears" (defArgs s_own_ears) (defBody s_own_ears) (defScope s_own_ears) [] [] (He.ga K "own_ears") fd
  g_own_ears : mg "own_ears" = some (.ref (He.ga K "own_ears"))
  f_tables : ∃ fd, FunD K "tables" "tables" (defArgs s_tables) (defBody s_tables) (defScope s_tables) [] [] (He.ga K "tables") fd
  g_tables : mg "tables" = some (.ref (He.ga K "tables"))
  f_do_count : ∃ fd, FunD K "do_count" "do_count" (defArgs s_do_count) (defBody s_do_count) (defScope s_do_count) [] [] (He.ga K "do_count") fd
  g_do_count : mg "do_count" = some (.ref (He.ga K "do_count"))
  f_ears_that_count : ∃ fd, FunD K "ears_that_count" "ears_that_count" (defArgs s_ears_that_count) (defBody s_ears_that_count) (defScope s_ears_that_count) [] [] (He.ga K "ears_that_count") fd
  g_ears_that_count : mg "ears_that_count" = some (.ref (He.ga K "ears_that_count"))
  f_counting : ∃ fd, FunD K "counting" "counting" (defArgs s_counting) (defBody s_counting) (defScope s_counting) [] [] (He.ga K "counting") fd
  g_counting : mg "counting" = some (.ref (He.ga K "counting"))
  f_lean_singer : ∃ fd, FunD K "lean_singer" "lean_singer" (defArgs s_lean_singer) (defBody s_lean_singer) (defScope s_lean_singer) [] [] (He.ga K "lean_singer") fd
  g_lean_singer : mg "lean_singer" = some (.ref (He.ga K "lean_singer"))
  f_leaned : ∃ fd, FunD K "leaned" "leaned" (defArgs s_leaned) (defBody s_leaned) (defScope s_leaned) [] [] (He.ga K "leaned") fd
  g_leaned : mg "leaned" = some (.ref (He.ga K "leaned"))
  f_need_first_rows : ∃ fd, FunD K "need_first_rows" "need_first_rows" (defArgs s_need_first_rows) (defBody s_need_first_rows) (defScope s_need_first_rows) [] [] (He.ga K "need_first_rows") fd
  g_need_first_rows : mg "need_first_rows" = some (.ref (He.ga K "need_first_rows"))
  f_spots_for : ∃ fd, FunD K "spots_for" "spots_for" (defArgs s_spots_for) (defBody s_spots_for) (defScope s_spots_for) [] [] (He.ga K "spots_for") fd
  g_spots_for : mg "spots_for" = some (.ref (He.ga K "spots_for"))
  f_lines_for : ∃ fd, FunD K "lines_for" "lines_for" (defArgs s_lines_for) (defBody s_lines_for) (defScope s_lines_for) [] [] (He.ga K "lines_for") fd
  g_lines_for : mg "lines_for" = some (.ref (He.ga K "lines_for"))
  f_widened : ∃ fd, FunD K "widened" "widened" (defArgs s_widened) (defBody s_widened) (defScope s_widened) [] [] (He.ga K "widened") fd
  g_widened : mg "widened" = some (.ref (He.ga K "widened"))
  f_all_known : ∃ fd, FunD K "all_known" "all_known" (defArgs s_all_known) (defBody s_all_known) (defScope s_all_known) [] [] (He.ga K "all_known") fd
  g_all_known : mg "all_known" = some (.ref (He.ga K "all_known"))
  f_as_standing : ∃ fd, FunD K "as_standing" "as_standing" (defArgs s_as_standing) (defBody s_as_standing) (defScope s_as_standing) [] [] (He.ga K "as_standing") fd
  g_as_standing : mg "as_standing" = some (.ref (He.ga K "as_standing"))
  f_must_begin : ∃ fd, FunD K "must_begin" "must_begin" (defArgs s_must_begin) (defBody s_must_begin) (defScope s_must_begin) [] [] (He.ga K "must_begin") fd
  g_must_begin : mg "must_begin" = some (.ref (He.ga K "must_begin"))
  f_need_both : ∃ fd, FunD K "need_both" "need_both" (defArgs s_need_both) (defBody s_need_both) (defScope s_need_both) [] [] (He.ga K "need_both") fd
  g_need_both : mg "need_both" = some (.ref (He.ga K "need_both"))
  f_need_beats : ∃ fd, FunD K "need_beats" "need_beats" (defArgs s_need_beats) (defBody s_need_beats) (defScope s_need_beats) [] [] (He.ga K "need_beats") fd
  g_need_beats : mg "need_beats" = some (.ref (He.ga K "need_beats"))
  f_rows_of : ∃ fd, FunD K "rows_of" "rows_of" (defArgs s_rows_of) (defBody s_rows_of) (defScope s_rows_of) [] [] (He.ga K "rows_of") fd
  g_rows_of : mg "rows_of" = some (.ref (He.ga K "rows_of"))
  f_song : ∃ fd, FunD K "song" "song" (defArgs s_song) (defBody s_song) (defScope s_song) [] [] (He.ga K "song") fd
  g_song : mg "song" = some (.ref (He.ga K "song"))
  f_walked : ∃ fd, FunD K "walked" "walked" (defArgs s_walked) (defBody s_walked) (defScope s_walked) [] [] (He.ga K "walked") fd
  g_walked : mg "walked" = some (.ref (He.ga K "walked"))
  f_round_of : ∃ fd, FunD K "round_of" "round_of" (defArgs s_round_of) (defBody s_round_of) (defScope s_round_of) [] [] (He.ga K "round_of") fd
  g_round_of : mg "round_of" = some (.ref (He.ga K "round_of"))
  f_is_lead : ∃ fd, FunD K "is_lead" "is_lead" (defArgs s_is_lead) (defBody s_is_lead) (defScope s_is_lead) [] [] (He.ga K "is_lead") fd
  g_is_lead : mg "is_lead" = some (.ref (He.ga K "is_lead"))
  f_need_leads : ∃ fd, FunD K "need_leads" "need_leads" (defArgs s_need_leads) (defBody s_need_leads) (defScope s_need_leads) [] [] (He.ga K "need_leads") fd
  g_need_leads : mg "need_leads" = some (.ref (He.ga K "need_leads"))
  f_led_lines : ∃ fd, FunD K "led_lines" "led_lines" (defArgs s_led_lines) (defBody s_led_lines) (defScope s_led_lines) [] [] (He.ga K "led_lines") fd
  g_led_lines : mg "led_lines" = some (.ref (He.ga K "led_lines"))
  f_led_rows : ∃ fd, FunD K "led_rows" "led_rows" (defArgs s_led_rows) (defBody s_led_rows) (defScope s_led_rows) [] [] (He.ga K "led_rows") fd
  g_led_rows : mg "led_rows" = some (.ref (He.ga K "led_rows"))
  f_led_song : ∃ fd, FunD K "led_song" "led_song" (defArgs s_led_song) (defBody s_led_song) (defScope s_led_song) [] [] (He.ga K "led_song") fd
  g_led_song : mg "led_song" = some (.ref (He.ga K "led_song"))
  f_singer_text : ∃ fd, FunD K "singer_text" "singer_text" (defArgs s_singer_text) (defBody s_singer_text) (defScope s_singer_text) [] [] (He.ga K "singer_text") fd
  g_singer_text : mg "singer_text" = some (.ref (He.ga K "singer_text"))
  f_choir_text : ∃ fd, FunD K "choir_text" "choir_text" (defArgs s_choir_text) (defBody s_choir_text) (defScope s_choir_text) [] [] (He.ga K "choir_text") fd
  g_choir_text : mg "choir_text" = some (.ref (He.ga K "choir_text"))
  f_figures_in : ∃ fd, FunD K "figures_in" "figures_in" (defArgs s_figures_in) (defBody s_figures_in) (defScope s_figures_in) [] [] (He.ga K "figures_in") fd
  g_figures_in : mg "figures_in" = some (.ref (He.ga K "figures_in"))
  f_ear_in : ∃ fd, FunD K "ear_in" "ear_in" (defArgs s_ear_in) (defBody s_ear_in) (defScope s_ear_in) [] [] (He.ga K "ear_in") fd
  g_ear_in : mg "ear_in" = some (.ref (He.ga K "ear_in"))
  f_singer_in : ∃ fd, FunD K "singer_in" "singer_in" (defArgs s_singer_in) (defBody s_singer_in) (defScope s_singer_in) [] [] (He.ga K "singer_in") fd
  g_singer_in : mg "singer_in" = some (.ref (He.ga K "singer_in"))
  f_read_choir : ∃ fd, FunD K "read_choir" "read_choir" (defArgs s_read_choir) (defBody s_read_choir) (defScope s_read_choir) [] [] (He.ga K "read_choir") fd
  g_read_choir : mg "read_choir" = some (.ref (He.ga K "read_choir"))
  f_is_good_wish : ∃ fd, FunD K "is_good_wish" "is_good_wish" (defArgs s_is_good_wish) (defBody s_is_good_wish) (defScope s_is_good_wish) [] [] (He.ga K "is_good_wish") fd
  g_is_good_wish : mg "is_good_wish" = some (.ref (He.ga K "is_good_wish"))
  f_need_wish : ∃ fd, FunD K "need_wish" "need_wish" (defArgs s_need_wish) (defBody s_need_wish) (defScope s_need_wish) [] [] (He.ga K "need_wish") fd
  g_need_wish : mg "need_wish" = some (.ref (He.ga K "need_wish"))
  f_holds : ∃ fd, FunD K "holds" "holds" (defArgs s_holds) (defBody s_holds) (defScope s_holds) [] [] (He.ga K "holds") fd
  g_holds : mg "holds" = some (.ref (He.ga K "holds"))
  f_granted : ∃ fd, FunD K "granted" "granted" (defArgs s_granted) (defBody s_granted) (defScope s_granted) [] [] (He.ga K "granted") fd
  g_granted : mg "granted" = some (.ref (He.ga K "granted"))
  f_law_cell : ∃ fd, FunD K "_law_cell" "_law_cell" (defArgs s_law_cell) (defBody s_law_cell) (defScope s_law_cell) [] [] (He.ga K "_law_cell") fd
  g_law_cell : mg "_law_cell" = some (.ref (He.ga K "_law_cell"))
  f_law_drawn : ∃ fd, FunD K "_law_drawn" "_law_drawn" (defArgs s_law_drawn) (defBody s_law_drawn) (defScope s_law_drawn) [] [] (He.ga K "_law_drawn") fd
  g_law_drawn : mg "_law_drawn" = some (.ref (He.ga K "_law_drawn"))
  f_law_roll : ∃ fd, FunD K "_law_roll" "_law_roll" (defArgs s_law_roll) (defBody s_law_roll) (defScope s_law_roll) [] [] (He.ga K "_law_roll") fd
  g_law_roll : mg "_law_roll" = some (.ref (He.ga K "_law_roll"))
  f_law_rounds : ∃ fd, FunD K "_law_rounds" "_law_rounds" (defArgs s_law_rounds) (defBody s_law_rounds) (defScope s_law_rounds) [] [] (He.ga K "_law_rounds") fd
  g_law_rounds : mg "_law_rounds" = some (.ref (He.ga K "_law_rounds"))
  f_law_met : ∃ fd, FunD K "_law_met" "_law_met" (defArgs s_law_met) (defBody s_law_met) (defScope s_law_met) [] [] (He.ga K "_law_met") fd
  g_law_met : mg "_law_met" = some (.ref (He.ga K "_law_met"))
  f_law_alone : ∃ fd, FunD K "_law_alone" "_law_alone" (defArgs s_law_alone) (defBody s_law_alone) (defScope s_law_alone) [] [] (He.ga K "_law_alone") fd
  g_law_alone : mg "_law_alone" = some (.ref (He.ga K "_law_alone"))
  f_law : ∃ fd, FunD K "law" "law" (defArgs s_law) (defBody s_law) (defScope s_law) [] [] (He.ga K "law") fd
  g_law : mg "law" = some (.ref (He.ga K "law"))
  f_Clash_init : ∃ fd, FunD K "__init__" "Clash.__init__" (defArgs s_Clash_init) (defBody s_Clash_init) (defScope s_Clash_init) [] [] (HD.aIn K) fd
  x_SongError : ExcF K mg "SongError"
  x_BadChoir : ExcF K mg "BadChoir"
  x_BadName : ExcF K mg "BadName"
  x_BadStanding : ExcF K mg "BadStanding"
  x_BadNumber : ExcF K mg "BadNumber"
  x_BadRows : ExcF K mg "BadRows"
  x_BadLead : ExcF K mg "BadLead"
  x_BadWish : ExcF K mg "BadWish"
  k_Clash : mg "Clash" = some (.ref (He.ga K "Clash"))
  x_Nothing : ExcF K mg "Nothing"
  x_Full : ExcF K mg "Full"
  x_BadText : ExcF K mg "BadText"
  c_SMALL : ∃ t, mg "SMALL" = some (.str "abcdefghijklmnopqrstuvwxyz" t)
  c_FREE : ∃ t, mg "FREE" = some (.int 3 t)
  c_MOST_BEGINNINGS : ∃ t, mg "MOST_BEGINNINGS" = some (.int 500 t)
  c_LONGEST : ∃ t, mg "LONGEST" = some (.int 500 t)
  c_MOST_AHEAD : ∃ t, mg "MOST_AHEAD" = some (.int 20000 t)
  c_FIGURES : ∃ t, mg "FIGURES" = some (.str "0123" t)
  c_DEEPEST : ∃ t, mg "DEEPEST" = some (.int 4 t)
  z_ValueError : mg "ValueError" = none
  z_all : mg "all" = none
  z_bool : mg "bool" = none
  z_dict : mg "dict" = none
  z_enumerate : mg "enumerate" = none
  z_int : mg "int" = none
  z_isinstance : mg "isinstance" = none
  z_len : mg "len" = none
  z_list : mg "list" = none
  z_max : mg "max" = none
  z_min : mg "min" = none
  z_range : mg "range" = none
  z_set : mg "set" = none
  z_sorted : mg "sorted" = none
  z_str : mg "str" = none
  z_tuple : mg "tuple" = none
  z_zip : mg "zip" = none
abbrev N_is_whole : List Str := ["thing", "low", "high"]
theorem sc_is_whole : FnScope N_is_whole ["thing", "low", "high"] (defScope s_is_whole) := ⟨rfl, rfl, rfl, by decide +kernel, rfl, by decide +kernel, by decide +kernel⟩
theorem ok_is_whole {P : Program} {w : World} {K : PySem.W.Frag} {mg : Str → Option Value} {base : Heap} (T : Tx K mg) : FnD P w K mg base 1 "is_whole" ["thing", "low", "high"] m_is_whole := by
  obtain ⟨fd, D⟩ := T.f_is_whole
  exact fn_mk D T.g_is_whole sc_is_whole (fun _ _ _ _ _ _ us hl => match us, hl with | [_, _, _], _ => rfl) (by decide) fun cdv A outer s H V E hr => (pms_one (pms_ret (pm_and (pm_isi .int T.z_isinstance T.z_int (pm_var 0)) (pm_and (pm_not (pm_isi .bool T.z_isinstance T.z_bool (pm_var 0))) (pm_one (pm_chain op_le od_le op_le od_le (pm_var 1) (pm_var 0) (pm_var 2)))))))
abbrev N_is_word : List Str := ["thing", "sign"]
theorem sc_is_word : FnScope N_is_word ["thing"] (defScope s_is_word) := ⟨rfl, rfl, rfl, by decide +kernel, rfl, by decide +kernel, by decide +kernel⟩
theorem ok_is_word {P : Program} {w : World} {K : PySem.W.Frag} {mg : Str → Option Value} {base : Heap} (T : Tx K mg) : FnD P w K mg base 1 "is_word" ["thing"] m_is_word := by
  obtain ⟨fd, D⟩ := T.f_is_word
  exact fn_mk D T.g_is_word sc_is_word (fun _ _ _ _ _ _ us hl => match us, hl with | [_], _ => rfl) (by decide) fun cdv A outer s H V E hr => (pms_one (pms_ret (pm_and (pm_isi .str T.z_isinstance T.z_str (pm_var 0)) (pm_and (pm_chain op_le od_le op_le od_le pm_int (pm_callB call_len cd_len T.z_len (pma_cons (pm_var 0) pma_nil)) pm_int) (pm_one (pm_callB (cr_all rfl) cd_all T.z_all (pma_cons (pm_lc [("sign", 1)] (pmi_seq (pm_var 0)) (blkOk_by (N := N_is_word) (sc := defScope s_is_word) (by decide +kernel)) sc_is_word.nd (fun _ _ _ _ _ => (pmg_name 1 sc_is_word.nd)) (fun _ _ _ _ _ => pmts_nil) (fun _ _ _ _ _ => (pm_cmp (op_inAll (u65 hr)) od_in (pm_var 1) (pm_gstr T.c_SMALL)))) pma_nil)))))))
abbrev N_rise : List Str := ["rows", "one", "other"]
theorem sc_rise : FnScope N_rise ["rows"] (defScope s_rise) := ⟨rfl, rfl, rfl, by decide +kernel, rfl, by decide +kernel, by decide +kernel⟩
theorem ok_rise {P : Program} {w : World} {K : PySem.W.Frag} {mg : Str → Option Value} {base : Heap} (T : Tx K mg) : FnD P w K mg base 1 "rise" ["rows"] m_rise := by
  obtain ⟨fd, D⟩ := T.f_rise
  exact fn_mk D T.g_rise sc_rise (fun _ _ _ _ _ _ us hl => match us, hl with | [_], _ => rfl) (by decide) fun cdv A outer s H V E hr => (pms_one (pms_ret (pm_callB (cr_all rfl) cd_all T.z_all (pma_cons (pm_lc [("one", 1), ("other", 2)] (pmi_zip T.z_zip (pma_cons (pm_var 0) (pma_cons (pm_slice (pm_var 0) (pmo_some pm_int) pmo_none) pma_nil))) (blkOk_by (N := N_rise) (sc := defScope s_rise) (by decide +kernel)) sc_rise.nd (fun _ _ _ _ _ => (pmg_tup (pmgs_cons (pmg_name 1 sc_rise.nd) (pmgs_cons (pmg_name 2 sc_rise.nd) pmgs_nil)) (gsC_len (gsC_len (fun _ _ _ h => gsN_len h))))) (fun _ _ _ _ _ => pmts_nil) (fun _ _ _ _ _ => (pm_cmp (op_ltAll hr.units0) od_lt (pm_var 1) (pm_var 2)))) pma_nil))))
abbrev N_are_lines : List Str := ["thing", "size", "many", "one"]
theorem sc_are_lines : FnScope N_are_lines ["thing", "size", "many"] (defScope s_are_lines) := ⟨rfl, rfl, rfl, by decide +kernel, rfl, by decide +kernel, by decide +kernel⟩
theorem ok_are_lines {P : Program} {w : World} {K : PySem.W.Frag} {mg : Str → Option Value} {base : Heap} (T : Tx K mg) : FnD P w K mg base 2 "are_lines" ["thing", "size", "many"] m_are_lines := by
  obtain ⟨fd, D⟩ := T.f_are_lines
  exact fn_mk D T.g_are_lines sc_are_lines (fun _ _ _ _ _ _ us hl => match us, hl with | [_, _, _], _ => rfl) (by decide) fun cdv A outer s H V E hr => (pms_one (pms_ret (pm_and (pm_isi .tuple T.z_isinstance T.z_tuple (pm_var 0)) (pm_and (pm_cmp (op_eqD hr.units) od_eq (pm_callB call_len cd_len T.z_len (pma_cons (pm_var 0) pma_nil)) (pm_var 1)) (pm_one (pm_callB (cr_all rfl) cd_all T.z_all (pma_cons (pm_lc [("one", 3)] (pmi_seq (pm_var 0)) (blkOk_by (N := N_are_lines) (sc := defScope s_are_lines) (by decide +kernel)) sc_are_lines.nd (fun _ _ _ _ _ => (pmg_name 3 sc_are_lines.nd)) (fun _ _ _ _ _ => pmts_nil) (fun _ _ _ _ _ => (pm_call (ok_is_whole T) (hr.mono (by decide)) tk_nox (pma_cons (pm_var 3) (pma_cons pm_int (pma_cons (pm_op op_sub od_sub (pm_var 2) pm_int) pma_nil)))))) pma_nil)))))))
abbrev N_is_ear : List Str := ["thing"]
theorem sc_is_ear : FnScope N_is_ear ["thing"] (defScope s_is_ear) := ⟨rfl, rfl, rfl, by decide +kernel, rfl, by decide +kernel, by decide +kernel⟩
theorem ok_is_ear {P : Program} {w : World} {K : PySem.W.Frag} {mg : Str → Option Value} {base : Heap} (T : Tx K mg) : FnD P w K mg base 2 "is_ear" ["thing"] m_is_ear := by
  obtain ⟨fd, D⟩ := T.f_is_ear
  exact fn_mk D T.g_is_ear sc_is_ear (fun _ _ _ _ _ _ us hl => match us, hl with | [_], _ => rfl) (by decide) fun cdv A outer s H V E hr => (pms_one (pms_ret (pm_and (pm_isi .tuple T.z_isinstance T.z_tuple (pm_var 0)) (pm_and (pm_cmp (op_eqD hr.units) od_eq (pm_callB call_len cd_len T.z_len (pma_cons (pm_var 0) pma_nil)) pm_int) (pm_and (pm_call (ok_is_word T) (hr.mono (by decide)) tk_fn (pma_cons (pm_ix ix_seq od_ix (pm_var 0) pm_int) pma_nil)) (pm_one (pm_call (ok_is_whole T) (hr.mono (by decide)) tk_fn (pma_cons (pm_ix ix_seq od_ix (pm_var 0) pm_int) (pma_cons pm_int (pma_cons pm_int pma_nil))))))))))
abbrev N_are_ears : List Str := ["thing", "one"]
theorem sc_are_ears : FnScope N_are_ears ["thing"] (defScope s_are_ears) := ⟨rfl, rfl, rfl, by decide +kernel, rfl, by decide +kernel, by decide +kernel⟩
theorem ok_are_ears {P : Program} {w : World} {K : PySem.W.Frag} {mg : Str → Option Value} {base : Heap} (T : Tx K mg) : FnD P w K mg base 3 "are_ears" ["thing"] m_are_ears := by
  obtain ⟨fd, D⟩ := T.f_are_ears
  exact fn_mk D T.g_are_ears sc_are_ears (fun _ _ _ _ _ _ us hl => match us, hl with | [_], _ => rfl) (by decide) fun cdv A outer s H V E hr => (pms_one (pms_ret (pm_and (pm_isi .tuple T.z_isinstance T.z_tuple (pm_var 0)) (pm_and (pm_cmp op_le od_le (pm_callB call_len cd_len T.z_len (pma_cons (pm_var 0) pma_nil)) pm_int) (pm_and (pm_callB (cr_all rfl) cd_all T.z_all (pma_cons (pm_lc [("one", 1)] (pmi_seq (pm_var 0)) (blkOk_by (N := N_are_ears) (sc := defScope s_are_ears) (by decide +kernel)) sc_are_ears.nd (fun _ _ _ _ _ => (pmg_name 1 sc_are_ears.nd)) (fun _ _ _ _ _ => pmts_nil) (fun _ _ _ _ _ => (pm_call (ok_is_ear T) (hr.mono (by decide)) tk_nox (pma_cons (pm_var 1) pma_nil)))) pma_nil)) (pm_one (pm_call (ok_rise T) (hr.mono (by decide)) tk_fn (pma_cons (pm_var 0) pma_nil))))))))
abbrev N_places_for : List Str := ["many", "ears"]
theorem sc_places_for : FnScope N_places_for ["many", "ears"] (defScope s_places_for) := ⟨rfl, rfl, rfl, by decide +kernel, rfl, by decide +kernel, by decide +kernel⟩
theorem ok_places_for {P : Program} {w : World} {K : PySem.W.Frag} {mg : Str → Option Value} {base : Heap} (T : Tx K mg) : FnD P w K mg base 1 "places_for" ["many", "ears"] m_places_for := by
  obtain ⟨fd, D⟩ := T.f_places_for
  exact fn_mk D T.g_places_for sc_places_for (fun _ _ _ _ _ _ us hl => match us, hl with | [_, _], _ => rfl) (by decide) fun cdv A outer s H V E hr => (pms_one (pms_ret (pm_ix ix_seq od_ix (pm_lst (pma_cons pm_int (pma_cons (pm_var 0) (pma_cons (pm_op op_mulD od_mul (pm_var 0) (pm_var 0)) pma_nil)))) (pm_callB call_len cd_len T.z_len (pma_cons (pm_var 1) pma_nil)))))
abbrev N_is_singer : List Str := ["thing", "many"]
theorem sc_is_singer : FnScope N_is_singer ["thing", "many"] (defScope s_is_singer) := ⟨rfl, rfl, rfl, by decide +kernel, rfl, by decide +kernel, by decide +kernel⟩
theorem ok_is_singer {P : Program} {w : World} {K : PySem.W.Frag} {mg : Str → Option Value} {base : Heap} (T : Tx K mg) : FnD P w K mg base 4 "is_singer" ["thing", "many"] m_is_singer := by
  obtain ⟨fd, D⟩ := T.f_is_singer
  exact fn_mk D T.g_is_singer sc_is_singer (fun _ _ _ _ _ _ us hl => match us, hl with | [_, _], _ => rfl) (by decide) fun cdv A outer s H V E hr => (pms_cons (pms_if (pmt_w (pmw_or (pmt_not (pmt_val (pm_isi .tuple T.z_isinstance T.z_tuple (pm_var 0)))) (pmw_or (pmt_cmp (op_neD hr.units) od_ne (pm_callB call_len cd_len T.z_len (pma_cons (pm_var 0) pma_nil)) pm_int) (pmw_or (pmt_not (pmt_val (pm_call (ok_is_word T) (hr.mono (by decide)) tk_fn (pma_cons (pm_ix ix_seq od_ix (pm_var 0) pm_int) pma_nil)))) (pmw_or1 (pmt_not (pmt_val (pm_call (ok_are_ears T) (hr.mono (by decide)) tk_fn (pma_cons (pm_ix ix_seq od_ix (pm_var 0) pm_int) pma_nil))))))))) (pms_one (pms_ret pm_bl)) pms_nil)
  (pms_one (pms_ret (pm_call (ok_are_lines T) (hr.mono (by decide)) tk_fn (pma_cons (pm_ix ix_seq od_ix (pm_var 0) pm_int) (pma_cons (pm_call (ok_places_for T) (hr.mono (by decide)) tk_fn (pma_cons (pm_var 1) (pma_cons (pm_ix ix_seq od_ix (pm_var 0) pm_int) pma_nil))) (pma_cons (pm_var 1) pma_nil)))))))
abbrev N_is_choir : List Str := ["thing", "many", "singers", "some", "one", "ear"]
theorem sc_is_choir : FnScope N_is_choir ["thing"] (defScope s_is_choir) := ⟨rfl, rfl, rfl, by decide +kernel, rfl, by decide +kernel, by decide +kernel⟩
theorem ok_is_choir {P : Program} {w : World} {K : PySem.W.Frag} {mg : Str → Option Value} {base : Heap} (T : Tx K mg) : FnD P w K mg base 5 "is_choir" ["thing"] m_is_choir := by
  obtain ⟨fd, D⟩ := T.f_is_choir
  exact fn_mk D T.g_is_choir sc_is_choir (fun _ _ _ _ _ _ us hl => match us, hl with | [_], _ => rfl) (by decide) fun cdv A outer s H V E hr => (pms_cons (pms_if (pmt_w (pmw_or (pmt_not (pmt_val (pm_isi .tuple T.z_isinstance T.z_tuple (pm_var 0)))) (pmw_or (pmt_cmp (op_neD hr.units) od_ne (pm_callB call_len cd_len T.z_len (pma_cons (pm_var 0) pma_nil)) pm_int) (pmw_or1 (pmt_not (pmt_val (pm_call (ok_is_whole T) (hr.mono (by decide)) tk_fn (pma_cons (pm_ix ix_seq od_ix (pm_var 0) pm_int) (pma_cons pm_int (pma_cons pm_int pma_nil)))))))))) (pms_one (pms_ret pm_bl)) pms_nil)
  (pms_cons (pms_asg (pm_var 0) (pmg_tup (pmgs_cons (pmg_name 1 sc_is_choir.nd) (pmgs_cons (pmg_name 2 sc_is_choir.nd) pmgs_nil)) (gsC_len (gsC_len (fun _ _ _ h => gsN_len h)))))
  (pms_cons (pms_if (pmt_w (pmw_or (pmt_not (pmt_val (pm_isi .tuple T.z_isinstance T.z_tuple (pm_var 2)))) (pmw_or1 (pmt_not (pmt_chain op_le od_le op_le od_le pm_int (pm_callB call_len cd_len T.z_len (pma_cons (pm_var 2) pma_nil)) pm_int))))) (pms_one (pms_ret pm_bl)) pms_nil)
  (pms_cons (pms_if (pmt_w (pmw_or (pmt_not (pmt_val (pm_callB (cr_all rfl) cd_all T.z_all (pma_cons (pm_lc [("one", 4)] (pmi_seq (pm_var 2)) (blkOk_by (N := N_is_choir) (sc := defScope s_is_choir) (by decide +kernel)) sc_is_choir.nd (fun _ _ _ _ _ => (pmg_name 4 sc_is_choir.nd)) (fun _ _ _ _ _ => pmts_nil) (fun _ _ _ _ _ => (pm_call (ok_is_singer T) (hr.mono (by decide)) tk_nox (pma_cons (pm_var 4) (pma_cons (pm_var 1) pma_nil))))) pma_nil)))) (pmw_or1 (pmt_not (pmt_val (pm_call (ok_rise T) (hr.mono (by decide)) tk_fn (pma_cons (pm_lc [("one", 4)] (pmi_seq (pm_var 2)) (blkOk_by (N := N_is_choir) (sc := defScope s_is_choir) (by decide +kernel)) sc_is_choir.nd (fun _ _ _ _ _ => (pmg_name 4 sc_is_choir.nd)) (fun _ _ _ _ _ => pmts_nil) (fun _ _ _ _ _ => (pm_ix ix_seq od_ix (pm_var 4) pm_int))) pma_nil))))))) (pms_one (pms_ret pm_bl)) pms_nil)
  (pms_cons (pms_set 3 (pm_lc [("one", 4)] (pmi_seq (pm_var 2)) (blkOk_by (N := N_is_choir) (sc := defScope s_is_choir) (by decide +kernel)) sc_is_choir.nd (fun _ _ _ _ _ => (pmg_name 4 sc_is_choir.nd)) (fun _ _ _ _ _ => pmts_nil) (fun _ _ _ _ _ => (pm_ix ix_seq od_ix (pm_var 4) pm_int))) sc_is_choir.nd)
  (pms_one (pms_ret (pm_callB (cr_all rfl) cd_all T.z_all (pma_cons (pm_lc2 [("one", 4), ("ear", 5)] [5] (pmi_seq (pm_var 2)) (blkOk_by (N := N_is_choir) (sc := defScope s_is_choir) (by decide +kernel)) sc_is_choir.nd (fun _ _ _ _ _ => (pmg_name 4 sc_is_choir.nd)) (fun _ _ _ _ _ => pmts_nil) (fun _ _ _ _ _ => (pmi_seq (pm_ix ix_seq od_ix (pm_var 4) pm_int))) (fun _ _ _ _ _ => (pmg_name 5 sc_is_choir.nd)) (fun _ _ _ _ _ => pmts_nil) (fun _ _ _ _ _ => (pm_cmp (op_inAll (u65 hr)) od_in (pm_ix ix_seq od_ix (pm_var 5) pm_int) (pm_var 3)))) pma_nil)))))))))
abbrev N_need_choir : List Str := ["thing"]
theorem sc_need_choir : FnScope N_need_choir ["thing"] (defScope s_need_choir) := ⟨rfl, rfl, rfl, by decide +kernel, rfl, by decide +kernel, by decide +kernel⟩
theorem ok_need_choir {P : Program} {w : World} {K : PySem.W.Frag} {mg : Str → Option Value} {base : Heap} (T : Tx K mg) : FnD P w K mg base 6 "need_choir" ["thing"] m_need_choir := by
  obtain ⟨fd, D⟩ := T.f_need_choir
  exact fn_mk D T.g_need_choir sc_need_choir (fun _ _ _ _ _ _ us hl => match us, hl with | [_], _ => rfl) (by decide) fun cdv A outer s H V E hr => (pms_one (pms_if (pmt_not (pmt_val (pm_call (ok_is_choir T) (hr.mono (by decide)) tk_fn (pma_cons (pm_var 0) pma_nil)))) (pms_one (pms_raise T.x_BadChoir tk_fn)) pms_nil))
abbrev N_all_names : List Str := ["choir", "one"]
theorem sc_all_names : FnScope N_all_names ["choir"] (defScope s_all_names) := ⟨rfl, rfl, rfl, by decide +kernel, rfl, by decide +kernel, by decide +kernel⟩
theorem ok_all_names {P : Program} {w : World} {K : PySem.W.Frag} {mg : Str → Option Value} {base : Heap} (T : Tx K mg) : FnD P w K mg base 1 "all_names" ["choir"] m_all_names := by
  obtain ⟨fd, D⟩ := T.f_all_names
  exact fn_mk D T.g_all_names sc_all_names (fun _ _ _ _ _ _ us hl => match us, hl with | [_], _ => rfl) (by decide) fun cdv A outer s H V E hr => (pms_one (pms_ret (pm_lc [("one", 1)] (pmi_seq (pm_ix ix_seq od_ix (pm_var 0) pm_int)) (blkOk_by (N := N_all_names) (sc := defScope s_all_names) (by decide +kernel)) sc_all_names.nd (fun _ _ _ _ _ => (pmg_name 1 sc_all_names.nd)) (fun _ _ _ _ _ => pmts_nil) (fun _ _ _ _ _ => (pm_ix ix_seq od_ix (pm_var 1) pm_int)))))
abbrev N_names : List Str := ["choir"]
theorem sc_names : FnScope N_names ["choir"] (defScope s_names) := ⟨rfl, rfl, rfl, by decide +kernel, rfl, by decide +kernel, by decide +kernel⟩
theorem ok_names {P : Program} {w : World} {K : PySem.W.Frag} {mg : Str → Option Value} {base : Heap} (T : Tx K mg) : FnD P w K mg base 7 "names" ["choir"] m_names := by
  obtain ⟨fd, D⟩ := T.f_names
  exact fn_mk D T.g_names sc_names (fun _ _ _ _ _ _ us hl => match us, hl with | [_], _ => rfl) (by decide) fun cdv A outer s H V E hr => (pms_cons (pms_expr (pm_call (ok_need_choir T) (hr.mono (by decide)) tk_fn (pma_cons (pm_var 0) pma_nil)))
  (pms_one (pms_ret (pm_call (ok_all_names T) (hr.mono (by decide)) tk_fn (pma_cons (pm_var 0) pma_nil)))))
abbrev N_is_good_standing : List Str := ["choir", "thing", "one"]
theorem sc_is_good_standing : FnScope N_is_good_standing ["choir", "thing"] (defScope s_is_good_standing) := ⟨rfl, rfl, rfl, by decide +kernel, rfl, by decide +kernel, by decide +kernel⟩
theorem ok_is_good_standing {P : Program} {w : World} {K : PySem.W.Frag} {mg : Str → Option Value} {base : Heap} (T : Tx K mg) : FnD P w K mg base 3 "is_good_standing" ["choir", "thing"] m_is_good_standing := by
  obtain ⟨fd, D⟩ := T.f_is_good_standing
  exact fn_mk D T.g_is_good_standing sc_is_good_standing (fun _ _ _ _ _ _ us hl => match us, hl with | [_, _], _ => rfl) (by decide) fun cdv A outer s H V E hr => (pms_cons (pms_if (pmt_w (pmw_or (pmt_not (pmt_val (pm_isi .tuple T.z_isinstance T.z_tuple (pm_var 1)))) (pmw_or1 (pmt_cmp (op_neD hr.units) od_ne (pm_callB call_len cd_len T.z_len (pma_cons (pm_var 1) pma_nil)) (pm_callB call_len cd_len T.z_len (pma_cons (pm_ix ix_seq od_ix (pm_var 0) pm_int) pma_nil)))))) (pms_one (pms_ret pm_bl)) pms_nil)
  (pms_one (pms_ret (pm_callB (cr_all rfl) cd_all T.z_all (pma_cons (pm_lc [("one", 2)] (pmi_seq (pm_var 1)) (blkOk_by (N := N_is_good_standing) (sc := defScope s_is_good_standing) (by decide +kernel)) sc_is_good_standing.nd (fun _ _ _ _ _ => (pmg_name 2 sc_is_good_standing.nd)) (fun _ _ _ _ _ => pmts_nil) (fun _ _ _ _ _ => (pm_call (ok_are_lines T) (hr.mono (by decide)) tk_nox (pma_cons (pm_var 2) (pma_cons pm_int (pma_cons (pm_ix ix_seq od_ix (pm_var 0) pm_int) pma_nil)))))) pma_nil)))))
abbrev N_need_standing : List Str := ["choir", "thing"]
theorem sc_need_standing : FnScope N_need_standing ["choir", "thing"] (defScope s_need_standing) := ⟨rfl, rfl, rfl, by decide +kernel, rfl, by decide +kernel, by decide +kernel⟩
theorem ok_need_standing {P : Program} {w : World} {K : PySem.W.Frag} {mg : Str → Option Value} {base : Heap} (T : Tx K mg) : FnD P w K mg base 4 "need_standing" ["choir", "thing"] m_need_standing := by
  obtain ⟨fd, D⟩ := T.f_need_standing
  exact fn_mk D T.g_need_standing sc_need_standing (fun _ _ _ _ _ _ us hl => match us, hl with | [_, _], _ => rfl) (by decide) fun cdv A outer s H V E hr => (pms_one (pms_if (pmt_not (pmt_val (pm_call (ok_is_good_standing T) (hr.mono (by decide)) tk_fn (pma_cons (pm_var 0) (pma_cons (pm_var 1) pma_nil))))) (pms_one (pms_raise T.x_BadStanding tk_fn)) pms_nil))
abbrev N_need_name : List Str := ["choir", "name"]
theorem sc_need_name : FnScope N_need_name ["choir", "name"] (defScope s_need_name) := ⟨rfl, rfl, rfl, by decide +kernel, rfl, by decide +kernel, by decide +kernel⟩
theorem ok_need_name {P : Program} {w : World} {K : PySem.W.Frag} {mg : Str → Option Value} {base : Heap} (T : Tx K mg) : FnD P w K mg base 2 "need_name" ["choir", "name"] m_need_name := by
  obtain ⟨fd, D⟩ := T.f_need_name
  exact fn_mk D T.g_need_name sc_need_name (fun _ _ _ _ _ _ us hl => match us, hl with | [_, _], _ => rfl) (by decide) fun cdv A outer s H V E hr => (pms_one (pms_if (pmt_w (pmw_or (pmt_not (pmt_val (pm_isi .str T.z_isinstance T.z_str (pm_var 1)))) (pmw_or1 (pmt_cmp (op_notInAll (u65 hr)) od_notIn (pm_var 1) (pm_call (ok_all_names T) (hr.mono (by decide)) tk_fn (pma_cons (pm_var 0) pma_nil)))))) (pms_one (pms_raise T.x_BadName tk_fn)) pms_nil))
abbrev N_number_of : List Str := ["choir", "name"]
theorem sc_number_of : FnScope N_number_of ["choir", "name"] (defScope s_number_of) := ⟨rfl, rfl, rfl, by decide +kernel, rfl, by decide +kernel, by decide +kernel⟩
theorem ok_number_of {P : Program} {w : World} {K : PySem.W.Frag} {mg : Str → Option Value} {base : Heap} (T : Tx K mg) : FnD P w K mg base 2 "number_of" ["choir", "name"] m_number_of := by
  obtain ⟨fd, D⟩ := T.f_number_of
  exact fn_mk D T.g_number_of sc_number_of (fun _ _ _ _ _ _ us hl => match us, hl with | [_, _], _ => rfl) (by decide) fun cdv A outer s H V E hr => (pms_one (pms_ret (pm_index (u65 hr) (pm_call (ok_all_names T) (hr.mono (by decide)) tk_fn (pma_cons (pm_var 0) pma_nil)) (pma_cons (pm_var 1) pma_nil))))
abbrev N_heard_by : List Str := ["choir", "standing", "singer", "name", "ago"]
theorem sc_heard_by : FnScope N_heard_by ["choir", "standing", "singer"] (defScope s_heard_by) := ⟨rfl, rfl, rfl, by decide +kernel, rfl, by decide +kernel, by decide +kernel⟩
theorem ok_heard_by {P : Program} {w : World} {K : PySem.W.Frag} {mg : Str → Option Value} {base : Heap} (T : Tx K mg) : FnD P w K mg base 3 "heard_by" ["choir", "standing", "singer"] m_heard_by := by
  obtain ⟨fd, D⟩ := T.f_heard_by
  exact fn_mk D T.g_heard_by sc_heard_by (fun _ _ _ _ _ _ us hl => match us, hl with | [_, _, _], _ => rfl) (by decide) fun cdv A outer s H V E hr => (pms_one (pms_ret (pm_callTy call_tuple_of cd_tuple T.z_tuple (pma_cons (pm_lc [("name", 3), ("ago", 4)] (pmi_seq (pm_ix ix_seq od_ix (pm_var 2) pm_int)) (blkOk_by (N := N_heard_by) (sc := defScope s_heard_by) (by decide +kernel)) sc_heard_by.nd (fun _ _ _ _ _ => (pmg_tup (pmgs_cons (pmg_name 3 sc_heard_by.nd) (pmgs_cons (pmg_name 4 sc_heard_by.nd) pmgs_nil)) (gsC_len (gsC_len (fun _ _ _ h => gsN_len h))))) (fun _ _ _ _ _ => pmts_nil) (fun _ _ _ _ _ => (pm_ix ix_seq od_ix (pm_ix ix_seq od_ix (pm_var 1) (pm_call (ok_number_of T) (hr.mono (by decide)) tk_nox (pma_cons (pm_var 0) (pma_cons (pm_var 3) pma_nil)))) (pm_op op_sub od_sub pm_int (pm_var 4))))) pma_nil))))
abbrev N_place_of : List Str := ["many", "some", "found", "line"]
theorem sc_place_of : FnScope N_place_of ["many", "some"] (defScope s_place_of) := ⟨rfl, rfl, rfl, by decide +kernel, rfl, by decide +kernel, by decide +kernel⟩
theorem ok_place_of {P : Program} {w : World} {K : PySem.W.Frag} {mg : Str → Option Value} {base : Heap} (T : Tx K mg) : FnD P w K mg base 1 "place_of" ["many", "some"] m_place_of := by
  obtain ⟨fd, D⟩ := T.f_place_of
  exact fn_mk D T.g_place_of sc_place_of (fun _ _ _ _ _ _ us hl => match us, hl with | [_, _], _ => rfl) (by decide) fun cdv A outer s H V E hr => (pms_cons (pms_set 2 pm_int sc_place_of.nd)
  (pms_cons (pms_for (passes_of rfl) (pmi_seq (pm_var 1)) (pmg_name 3 sc_place_of.nd)
  (pms_one (pms_set 2 (pm_op op_addD od_add (pm_op op_mulD od_mul (pm_var 2) (pm_var 0)) (pm_var 3)) sc_place_of.nd)))
  (pms_one (pms_ret (pm_var 2)))))
abbrev N_table_line : List Str := ["choir", "standing", "singer"]
theorem sc_table_line : FnScope N_table_line ["choir", "standing", "singer"] (defScope s_table_line) := ⟨rfl, rfl, rfl, by decide +kernel, rfl, by decide +kernel, by decide +kernel⟩
theorem ok_table_line {P : Program} {w : World} {K : PySem.W.Frag} {mg : Str → Option Value} {base : Heap} (T : Tx K mg) : FnD P w K mg base 4 "table_line" ["choir", "standing", "singer"] m_table_line := by
  obtain ⟨fd, D⟩ := T.f_table_line
  exact fn_mk D T.g_table_line sc_table_line (fun _ _ _ _ _ _ us hl => match us, hl with | [_, _, _], _ => rfl) (by decide) fun cdv A outer s H V E hr => (pms_one (pms_ret (pm_ix ix_seq od_ix (pm_ix ix_seq od_ix (pm_var 2) pm_int) (pm_call (ok_place_of T) (hr.mono (by decide)) tk_fn (pma_cons (pm_ix ix_seq od_ix (pm_var 0) pm_int) (pma_cons (pm_call (ok_heard_by T) (hr.mono (by decide)) tk_fn (pma_cons (pm_var 0) (pma_cons (pm_var 1) (pma_cons (pm_var 2) pma_nil)))) pma_nil))))))
abbrev N_all_next : List Str := ["choir", "standing", "singer"]
theorem sc_all_next : FnScope N_all_next ["choir", "standing"] (defScope s_all_next) := ⟨rfl, rfl, rfl, by decide +kernel, rfl, by decide +kernel, by decide +kernel⟩
theorem ok_all_next {P : Program} {w : World} {K : PySem.W.Frag} {mg : Str → Option Value} {base : Heap} (T : Tx K mg) : FnD P w K mg base 5 "all_next" ["choir", "standing"] m_all_next := by
  obtain ⟨fd, D⟩ := T.f_all_next
  exact fn_mk D T.g_all_next sc_all_next (fun _ _ _ _ _ _ us hl => match us, hl with | [_, _], _ => rfl) (by decide) fun cdv A outer s H V E hr => (pms_one (pms_ret (pm_callTy call_tuple_of cd_tuple T.z_tuple (pma_cons (pm_lc [("singer", 2)] (pmi_seq (pm_ix ix_seq od_ix (pm_var 0) pm_int)) (blkOk_by (N := N_all_next) (sc := defScope s_all_next) (by decide +kernel)) sc_all_next.nd (fun _ _ _ _ _ => (pmg_name 2 sc_all_next.nd)) (fun _ _ _ _ _ => pmts_nil) (fun _ _ _ _ _ => (pm_call (ok_table_line T) (hr.mono (by decide)) tk_nox (pma_cons (pm_var 0) (pma_cons (pm_var 1) (pma_cons (pm_var 2) pma_nil)))))) pma_nil))))
abbrev N_behind : List Str := ["standing", "lines", "row", "line"]
theorem sc_behind : FnScope N_behind ["standing", "lines"] (defScope s_behind) := ⟨rfl, rfl, rfl, by decide +kernel, rfl, by decide +kernel, by decide +kernel⟩
theorem ok_behind {P : Program} {w : World} {K : PySem.W.Frag} {mg : Str → Option Value} {base : Heap} (T : Tx K mg) : FnD P w K mg base 1 "behind" ["standing", "lines"] m_behind := by
  obtain ⟨fd, D⟩ := T.f_behind
  exact fn_mk D T.g_behind sc_behind (fun _ _ _ _ _ _ us hl => match us, hl with | [_, _], _ => rfl) (by decide) fun cdv A outer s H V E hr => (pms_one (pms_ret (pm_callTy call_tuple_of cd_tuple T.z_tuple (pma_cons (pm_lc [("row", 2), ("line", 3)] (pmi_zip T.z_zip (pma_cons (pm_var 0) (pma_cons (pm_var 1) pma_nil))) (blkOk_by (N := N_behind) (sc := defScope s_behind) (by decide +kernel)) sc_behind.nd (fun _ _ _ _ _ => (pmg_tup (pmgs_cons (pmg_name 2 sc_behind.nd) (pmgs_cons (pmg_name 3 sc_behind.nd) pmgs_nil)) (gsC_len (gsC_len (fun _ _ _ h => gsN_len h))))) (fun _ _ _ _ _ => pmts_nil) (fun _ _ _ _ _ => (pm_op op_addD od_add (pm_slice (pm_var 2) (pmo_some pm_int) pmo_none) (pm_tup (pma_cons (pm_var 3) pma_nil))))) pma_nil))))
abbrev N_on : List Str := ["choir", "standing"]
theorem sc_on : FnScope N_on ["choir", "standing"] (defScope s_on) := ⟨rfl, rfl, rfl, by decide +kernel, rfl, by decide +kernel, by decide +kernel⟩
theorem ok_on {P : Program} {w : World} {K : PySem.W.Frag} {mg : Str → Option Value} {base : Heap} (T : Tx K mg) : FnD P w K mg base 6 "on" ["choir", "standing"] m_on := by
  obtain ⟨fd, D⟩ := T.f_on
  exact fn_mk D T.g_on sc_on (fun _ _ _ _ _ _ us hl => match us, hl with | [_, _], _ => rfl) (by decide) fun cdv A outer s H V E hr => (pms_one (pms_ret (pm_call (ok_behind T) (hr.mono (by decide)) tk_fn (pma_cons (pm_var 1) (pma_cons (pm_call (ok_all_next T) (hr.mono (by decide)) tk_fn (pma_cons (pm_var 0) (pma_cons (pm_var 1) pma_nil))) pma_nil)))))
abbrev N_need_stretch : List Str := ["choir", "rows", "lines"]
theorem sc_need_stretch : FnScope N_need_stretch ["choir", "rows"] (defScope s_need_stretch) := ⟨rfl, rfl, rfl, by decide +kernel, rfl, by decide +kernel, by decide +kernel⟩
theorem ok_need_stretch {P : Program} {w : World} {K : PySem.W.Frag} {mg : Str → Option Value} {base : Heap} (T : Tx K mg) : FnD P w K mg base 3 "need_stretch" ["choir", "rows"] m_need_stretch := by
  obtain ⟨fd, D⟩ := T.f_need_stretch
  exact fn_mk D T.g_need_stretch sc_need_stretch (fun _ _ _ _ _ _ us hl => match us, hl with | [_, _], _ => rfl) (by decide) fun cdv A outer s H V E hr => (pms_cons (pms_if (pmt_w (pmw_or (pmt_not (pmt_val (pm_isi .list T.z_isinstance T.z_list (pm_var 1)))) (pmw_or1 (pmt_not (pmt_chain op_le od_le op_le od_le pm_int (pm_callB call_len cd_len T.z_len (pma_cons (pm_var 1) pma_nil)) pm_int))))) (pms_one (pms_raise T.x_BadRows tk_fn)) pms_nil)
  (pms_one (pms_if (pmt_not (pmt_val (pm_callB (cr_all rfl) cd_all T.z_all (pma_cons (pm_lc [("lines", 2)] (pmi_seq (pm_var 1)) (blkOk_by (N := N_need_stretch) (sc := defScope s_need_stretch) (by decide +kernel)) sc_need_stretch.nd (fun _ _ _ _ _ => (pmg_name 2 sc_need_stretch.nd)) (fun _ _ _ _ _ => pmts_nil) (fun _ _ _ _ _ => (pm_call (ok_are_lines T) (hr.mono (by decide)) tk_nox (pma_cons (pm_var 2) (pma_cons (pm_callB call_len cd_len T.z_len (pma_cons (pm_ix ix_seq od_ix (pm_var 0) pm_int) pma_nil)) (pma_cons (pm_ix ix_seq od_ix (pm_var 0) pm_int) pma_nil)))))) pma_nil)))) (pms_one (pms_raise T.x_BadRows tk_fn)) pms_nil)))
abbrev N_need_asked_2 : List Str := ["choir", "rows"]
theorem sc_need_asked_2 : FnScope N_need_asked_2 ["choir", "rows"] (defScope s_need_asked_2) := ⟨rfl, rfl, rfl, by decide +kernel, rfl, by decide +kernel, by decide +kernel⟩
theorem ok_need_asked_2 {P : Program} {w : World} {K : PySem.W.Frag} {mg : Str → Option Value} {base : Heap} (T : Tx K mg) : FnD P w K mg base 7 "need_asked" ["choir", "rows"] m_need_asked_2 := by
  obtain ⟨fd, D⟩ := T.f_need_asked_2
  exact fn_mk D T.g_need_asked_2 sc_need_asked_2 (fun _ _ _ _ _ _ us hl => match us, hl with | [_, _], _ => rfl) (by decide) fun cdv A outer s H V E hr => (pms_cons (pms_expr (pm_call (ok_need_choir T) (hr.mono (by decide)) tk_fn (pma_cons (pm_var 0) pma_nil)))
  (pms_one (pms_expr (pm_call (ok_need_stretch T) (hr.mono (by decide)) tk_fn (pma_cons (pm_var 0) (pma_cons (pm_var 1) pma_nil))))))
abbrev N_place_at : List Str := ["choir", "rows", "ears", "beat", "name", "ago"]
theorem sc_place_at : FnScope N_place_at ["choir", "rows", "ears", "beat"] (defScope s_place_at) := ⟨rfl, rfl, rfl, by decide +kernel, rfl, by decide +kernel, by decide +kernel⟩
theorem ok_place_at {P : Program} {w : World} {K : PySem.W.Frag} {mg : Str → Option Value} {base : Heap} (T : Tx K mg) : FnD P w K mg base 3 "place_at" ["choir", "rows", "ears", "beat"] m_place_at := by
  obtain ⟨fd, D⟩ := T.f_place_at
  exact fn_mk D T.g_place_at sc_place_at (fun _ _ _ _ _ _ us hl => match us, hl with | [_, _, _, _], _ => rfl) (by decide) fun cdv A outer s H V E hr => (pms_one (pms_ret (pm_call (ok_place_of T) (hr.mono (by decide)) tk_fn (pma_cons (pm_ix ix_seq od_ix (pm_var 0) pm_int) (pma_cons (pm_lc [("name", 4), ("ago", 5)] (pmi_seq (pm_var 2)) (blkOk_by (N := N_place_at) (sc := defScope s_place_at) (by decide +kernel)) sc_place_at.nd (fun _ _ _ _ _ => (pmg_tup (pmgs_cons (pmg_name 4 sc_place_at.nd) (pmgs_cons (pmg_name 5 sc_place_at.nd) pmgs_nil)) (gsC_len (gsC_len (fun _ _ _ h => gsN_len h))))) (fun _ _ _ _ _ => pmts_nil) (fun _ _ _ _ _ => (pm_ix ix_seq od_ix (pm_ix ix_seq od_ix (pm_var 1) (pm_op op_sub od_sub (pm_var 3) (pm_var 5))) (pm_call (ok_number_of T) (hr.mono (by decide)) tk_nox (pma_cons (pm_var 0) (pma_cons (pm_var 4) pma_nil)))))) pma_nil)))))
abbrev N_slip_of : List Str := ["choir", "rows", "beat", "at", "name", "ears", "table"]
theorem sc_slip_of : FnScope N_slip_of ["choir", "rows"] (defScope s_slip_of) := ⟨rfl, rfl, rfl, by decide +kernel, rfl, by decide +kernel, by decide +kernel⟩
theorem ok_slip_of {P : Program} {w : World} {K : PySem.W.Frag} {mg : Str → Option Value} {base : Heap} (T : Tx K mg) : FnD P w K mg base 4 "slip_of" ["choir", "rows"] m_slip_of := by
  obtain ⟨fd, D⟩ := T.f_slip_of
  exact fn_mk D T.g_slip_of sc_slip_of (fun _ _ _ _ _ _ us hl => match us, hl with | [_, _], _ => rfl) (by decide) fun cdv A outer s H V E hr => (pms_cons (pms_for (passes_of rfl) (pmi_range2 T.z_range (pma_cons (pm_gint T.c_FREE) (pma_cons (pm_callB call_len cd_len T.z_len (pma_cons (pm_var 1) pma_nil)) pma_nil))) (pmg_name 2 sc_slip_of.nd)
  (pms_one (pms_for (passes_of rfl) (pmi_enum T.z_enumerate (pma_cons (pm_ix ix_seq od_ix (pm_var 0) pm_int) pma_nil)) (pmg_tup (pmgs_cons (pmg_name 3 sc_slip_of.nd) (pmgs_cons (pmg_tup (pmgs_cons (pmg_name 4 sc_slip_of.nd) (pmgs_cons (pmg_name 5 sc_slip_of.nd) (pmgs_cons (pmg_name 6 sc_slip_of.nd) pmgs_nil))) (gsC_len (gsC_len (gsC_len (fun _ _ _ h => gsN_len h))))) pmgs_nil)) (gsC_len (gsC_len (fun _ _ _ h => gsN_len h))))
  (pms_one (pms_if (pmt_cmp (op_neD hr.units) od_ne (pm_ix ix_seq od_ix (pm_var 6) (pm_call (ok_place_at T) (hr.mono (by decide)) tk_fn (pma_cons (pm_var 0) (pma_cons (pm_var 1) (pma_cons (pm_var 5) (pma_cons (pm_var 2) pma_nil)))))) (pm_ix ix_seq od_ix (pm_ix ix_seq od_ix (pm_var 1) (pm_var 2)) (pm_var 3))) (pms_one (pms_ret (pm_tup (pma_cons (pm_var 2) (pma_cons (pm_var 4) pma_nil))))) pms_nil)))))
  (pms_one (pms_ret pm_non)))
abbrev N_fits : List Str := ["choir", "rows"]
theorem sc_fits : FnScope N_fits ["choir", "rows"] (defScope s_fits) := ⟨rfl, rfl, rfl, by decide +kernel, rfl, by decide +kernel, by decide +kernel⟩
theorem ok_fits {P : Program} {w : World} {K : PySem.W.Frag} {mg : Str → Option Value} {base : Heap} (T : Tx K mg) : FnD P w K mg base 8 "fits" ["choir", "rows"] m_fits := by
  obtain ⟨fd, D⟩ := T.f_fits
  exact fn_mk D T.g_fits sc_fits (fun _ _ _ _ _ _ us hl => match us, hl with | [_, _], _ => rfl) (by decide) fun cdv A outer s H V E hr => (pms_cons (pms_expr (pm_call (ok_need_asked_2 T) (hr.mono (by decide)) tk_fn (pma_cons (pm_var 0) (pma_cons (pm_var 1) pma_nil))))
  (pms_one (pms_ret (pm_cmp op_isD od_is (pm_call (ok_slip_of T) (hr.mono (by decide)) tk_fn (pma_cons (pm_var 0) (pma_cons (pm_var 1) pma_nil))) pm_non))))
abbrev N_asked_of : List Str := ["choir", "rows", "at", "ears", "first", "found", "beat", "place", "line"]
theorem sc_asked_of : FnScope N_asked_of ["choir", "rows", "at", "ears"] (defScope s_asked_of) := ⟨rfl, rfl, rfl, by decide +kernel, rfl, by decide +kernel, by decide +kernel⟩
theorem ok_asked_of {P : Program} {w : World} {K : PySem.W.Frag} {mg : Str → Option Value} {base : Heap} (T : Tx K mg) : FnD P w K mg base 4 "asked_of" ["choir", "rows", "at", "ears"] m_asked_of := by
  obtain ⟨fd, D⟩ := T.f_asked_of
  exact fn_mk D T.g_asked_of sc_asked_of (fun _ _ _ _ _ _ us hl => match us, hl with | [_, _, _, _], _ => rfl) (by decide) fun cdv A outer s H V E hr => (pms_cons (pms_par2 4 5 (pmx_ow pmf_dnew (pmx_ow (pmf_rep (pm_lst (pma_cons pm_non pma_nil)) (pm_call (ok_places_for T) (hr.mono (by decide)) tk_fn (pma_cons (pm_ix ix_seq od_ix (pm_var 0) pm_int) (pma_cons (pm_var 3) pma_nil)))) pmx_nil)) sc_asked_of.nd)
  (pms_cons (pms_for (passes_of rfl) (pmi_range2 T.z_range (pma_cons (pm_gint T.c_FREE) (pma_cons (pm_callB call_len cd_len T.z_len (pma_cons (pm_var 1) pma_nil)) pma_nil))) (pmg_name 6 sc_asked_of.nd)
  (pms_cons (pms_par 7 8 (pma_cons (pm_call (ok_place_at T) (hr.mono (by decide)) tk_fn (pma_cons (pm_var 0) (pma_cons (pm_var 1) (pma_cons (pm_var 3) (pma_cons (pm_var 6) pma_nil))))) (pma_cons (pm_ix ix_seq od_ix (pm_ix ix_seq od_ix (pm_var 1) (pm_var 6)) (pm_var 2)) pma_nil)) sc_asked_of.nd)
  (pms_cons (pms_if (pmt_brw false (pmt_cmp op_isD od_is (pm_ix ix_seq od_ix (pm_var 5) (pm_var 7)) pm_non)) (pms_one (pms_six 5 (pm_var 8) (pm_var 7))) pms_nil)
  (pms_cons (pms_if (pmt_brw false (pmt_cmp (op_neD hr.units) od_ne (pm_ix ix_seq od_ix (pm_var 5) (pm_var 7)) (pm_var 8))) (pms_one (pms_dem false (pms_ret (pm_tup (pma_cons (pm_var 5) (pma_cons (pm_tup (pma_cons (pm_dix hr.units (pm_var 4) (pm_tup (pma_cons (pm_var 7) (pma_cons (pm_ix ix_seq od_ix (pm_var 5) (pm_var 7)) pma_nil)))) (pma_cons (pm_var 6) pma_nil))) pma_nil)))))) pms_nil)
  (pms_one (pms_dsd 4 hr.units (pm_tup (pma_cons (pm_var 7) (pma_cons (pm_var 8) pma_nil))) (pm_var 6)))))))
  (pms_one (pms_dem false (pms_ret (pm_tup (pma_cons (pm_var 5) (pma_cons pm_non pma_nil))))))))
abbrev N_own_ears : List Str := ["choir", "name"]
theorem sc_own_ears : FnScope N_own_ears ["choir", "name"] (defScope s_own_ears) := ⟨rfl, rfl, rfl, by decide +kernel, rfl, by decide +kernel, by decide +kernel⟩
theorem ok_own_ears {P : Program} {w : World} {K : PySem.W.Frag} {mg : Str → Option Value} {base : Heap} (T : Tx K mg) : FnD P w K mg base 3 "own_ears" ["choir", "name"] m_own_ears := by
  obtain ⟨fd, D⟩ := T.f_own_ears
  exact fn_mk D T.g_own_ears sc_own_ears (fun _ _ _ _ _ _ us hl => match us, hl with | [_, _], _ => rfl) (by decide) fun cdv A outer s H V E hr => (pms_one (pms_ret (pm_ix ix_seq od_ix (pm_ix ix_seq od_ix (pm_ix ix_seq od_ix (pm_var 0) pm_int) (pm_call (ok_number_of T) (hr.mono (by decide)) tk_fn (pma_cons (pm_var 0) (pma_cons (pm_var 1) pma_nil)))) pm_int)))
abbrev N_tables : List Str := ["choir", "rows", "name", "found", "clash"]
theorem sc_tables : FnScope N_tables ["choir", "rows", "name"] (defScope s_tables) := ⟨rfl, rfl, rfl, by decide +kernel, rfl, by decide +kernel, by decide +kernel⟩
theorem ok_Clash_init {P : Program} {w : World} {K : PySem.W.Frag} {mg : Str → Option Value} {base : Heap} (T : Tx K mg) (CK : HD.ClK K) : HD.FnCl P w K mg base 1 := by
  obtain ⟨fd, D⟩ := T.f_Clash_init
  exact HD.init_mk D ⟨rfl, rfl, rfl, by decide +kernel, rfl, by decide +kernel, by decide +kernel⟩ (fun _ _ _ _ _ _ us hl => match us, hl with | [_, _], _ => rfl) fun cdv A outer s H E => HD.init_body CK T.x_SongError.g rfl rfl (Or.inl rfl) (Or.inl rfl) rfl rfl rfl rfl rfl rfl rfl
theorem okx_tables {P : Program} {w : World} {K : PySem.W.Frag} {mg : Str → Option Value} {base : Heap} (T : Tx K mg) (CK : HD.ClK K) : HD.FnX P w K mg base 8 "tables" ["choir", "rows", "name"] x_tables := by
  obtain ⟨fd, D⟩ := T.f_tables
  exact HD.fn_mkX D T.g_tables sc_tables (fun _ _ _ _ _ _ us hl => match us, hl with | [_, _, _], _ => rfl) (by decide) fun cdv A outer s H V E hr => (HD.pmx_cons (HD.pmx_up (pms_expr (pm_call (ok_need_asked_2 T) (hr.mono (by decide)) tk_fn (pma_cons (pm_var 0) (pma_cons (pm_var 1) pma_nil)))))
  (HD.pmx_cons (HD.pmx_up (pms_expr (pm_call (ok_need_name T) (hr.mono (by decide)) tk_fn (pma_cons (pm_var 0) (pma_cons (pm_var 2) pma_nil)))))
  (HD.pmx_cons (HD.pmx_up (pms_asg (pm_call (ok_asked_of T) (hr.mono (by decide)) tk_fn (pma_cons (pm_var 0) (pma_cons (pm_var 1) (pma_cons (pm_call (ok_number_of T) (hr.mono (by decide)) tk_fn (pma_cons (pm_var 0) (pma_cons (pm_var 2) pma_nil))) (pma_cons (pm_call (ok_own_ears T) (hr.mono (by decide)) tk_fn (pma_cons (pm_var 0) (pma_cons (pm_var 2) pma_nil))) pma_nil))))) (pmg_tup (pmgs_cons (pmg_name 3 sc_tables.nd) (pmgs_cons (pmg_name 4 sc_tables.nd) pmgs_nil)) (gsC_len (gsC_len (fun _ _ _ h => gsN_len h))))))
  (HD.pmx_cons (HD.pmx_if (pmt_cmp op_isNotD od_isNot (pm_var 4) pm_non) (HD.pmx_one (HD.pmx_raise CK (ok_Clash_init T CK) (hr.mono (by decide)) HD.tkx_fn T.k_Clash (pm_var 4))) (HD.pmx_ups pms_nil))
  (HD.pmx_one (HD.pmx_up (pms_ret (pm_callTy call_tuple_of cd_tuple T.z_tuple (pma_cons (pm_var 3) pma_nil)))))))))
abbrev N_do_count : List Str := ["many", "singer", "at", "ears", "table", "other", "some", "line", "pair"]
theorem sc_do_count : FnScope N_do_count ["many", "singer", "at"] (defScope s_do_count) := ⟨rfl, rfl, rfl, by decide +kernel, rfl, by decide +kernel, by decide +kernel⟩
theorem ok_do_count {P : Program} {w : World} {K : PySem.W.Frag} {mg : Str → Option Value} {base : Heap} (T : Tx K mg) : FnD P w K mg base 2 "do_count" ["many", "singer", "at"] m_do_count := by
  obtain ⟨fd, D⟩ := T.f_do_count
  exact fn_mk D T.g_do_count sc_do_count (fun _ _ _ _ _ _ us hl => match us, hl with | [_, _, _], _ => rfl) (by decide) fun cdv A outer s H V E hr => (pms_cons (pms_asg (pm_tup (pma_cons (pm_ix ix_seq od_ix (pm_var 1) pm_int) (pma_cons (pm_ix ix_seq od_ix (pm_var 1) pm_int) pma_nil))) (pmg_tup (pmgs_cons (pmg_name 3 sc_do_count.nd) (pmgs_cons (pmg_name 4 sc_do_count.nd) pmgs_nil)) (gsC_len (gsC_len (fun _ _ _ h => gsN_len h)))))
  (pms_cons (pms_for (passes_of rfl) (pmi_range1 T.z_range (pma_cons (pm_if (pmt_cmp (op_eqD hr.units) od_eq (pm_callB call_len cd_len T.z_len (pma_cons (pm_var 3) pma_nil)) pm_int) (pm_var 0) pm_int) pma_nil)) (pmg_name 5 sc_do_count.nd)
  (pms_cons (pms_setLc 6 [("line", 7)] (pmi_range1 T.z_range (pma_cons (pm_var 0) pma_nil)) (blkOk_by (N := N_do_count) (sc := defScope s_do_count) (by decide +kernel)) sc_do_count.nd (fun _ _ _ _ _ => (pmg_name 7 sc_do_count.nd)) (fun _ _ _ _ _ => pmts_nil) (fun _ _ _ _ _ => (pm_if (pmt_cmp (op_eqD hr.units) od_eq (pm_var 2) pm_int) (pm_tup (pma_cons (pm_var 7) (pma_cons (pm_var 5) pma_nil))) (pm_tup (pma_cons (pm_var 5) (pma_cons (pm_var 7) pma_nil))))))
  (pms_one (pms_if (pmt_cmp op_gt od_gt (pm_setLen T.z_len T.z_set (pm_lc [("pair", 8)] (pmi_seq (pm_var 6)) (blkOk_by (N := N_do_count) (sc := defScope s_do_count) (by decide +kernel)) sc_do_count.nd (fun _ _ _ _ _ => (pmg_name 8 sc_do_count.nd)) (fun _ _ _ _ _ => pmts_nil) (fun _ _ _ _ _ => (pm_ix ix_seq od_ix (pm_var 4) (pm_call (ok_place_of T) (hr.mono (by decide)) tk_nox (pma_cons (pm_var 0) (pma_cons (pm_slice (pm_var 8) pmo_none (pmo_some (pm_callB call_len cd_len T.z_len (pma_cons (pm_var 3) pma_nil)))) pma_nil))))))) pm_int) (pms_one (pms_ret pm_bl)) pms_nil))))
  (pms_one (pms_ret pm_bl))))
abbrev N_ears_that_count : List Str := ["many", "singer", "at", "ear"]
theorem sc_ears_that_count : FnScope N_ears_that_count ["many", "singer"] (defScope s_ears_that_count) := ⟨rfl, rfl, rfl, by decide +kernel, rfl, by decide +kernel, by decide +kernel⟩
theorem ok_ears_that_count {P : Program} {w : World} {K : PySem.W.Frag} {mg : Str → Option Value} {base : Heap} (T : Tx K mg) : FnD P w K mg base 3 "ears_that_count" ["many", "singer"] m_ears_that_count := by
  obtain ⟨fd, D⟩ := T.f_ears_that_count
  exact fn_mk D T.g_ears_that_count sc_ears_that_count (fun _ _ _ _ _ _ us hl => match us, hl with | [_, _], _ => rfl) (by decide) fun cdv A outer s H V E hr => (pms_one (pms_ret (pm_callTy call_tuple_of cd_tuple T.z_tuple (pma_cons (pm_lc [("at", 2), ("ear", 3)] (pmi_enum T.z_enumerate (pma_cons (pm_ix ix_seq od_ix (pm_var 1) pm_int) pma_nil)) (blkOk_by (N := N_ears_that_count) (sc := defScope s_ears_that_count) (by decide +kernel)) sc_ears_that_count.nd (fun _ _ _ _ _ => (pmg_tup (pmgs_cons (pmg_name 2 sc_ears_that_count.nd) (pmgs_cons (pmg_name 3 sc_ears_that_count.nd) pmgs_nil)) (gsC_len (gsC_len (fun _ _ _ h => gsN_len h))))) (fun _ _ _ _ _ => (pmts_one (pmt_val (pm_call (ok_do_count T) (hr.mono (by decide)) tk_nox (pma_cons (pm_var 0) (pma_cons (pm_var 1) (pma_cons (pm_var 2) pma_nil))))))) (fun _ _ _ _ _ => (pm_var 3))) pma_nil))))
abbrev N_counting : List Str := ["choir", "name"]
theorem sc_counting : FnScope N_counting ["choir", "name"] (defScope s_counting) := ⟨rfl, rfl, rfl, by decide +kernel, rfl, by decide +kernel, by decide +kernel⟩
theorem ok_counting {P : Program} {w : World} {K : PySem.W.Frag} {mg : Str → Option Value} {base : Heap} (T : Tx K mg) : FnD P w K mg base 7 "counting" ["choir", "name"] m_counting := by
  obtain ⟨fd, D⟩ := T.f_counting
  exact fn_mk D T.g_counting sc_counting (fun _ _ _ _ _ _ us hl => match us, hl with | [_, _], _ => rfl) (by decide) fun cdv A outer s H V E hr => (pms_cons (pms_expr (pm_call (ok_need_choir T) (hr.mono (by decide)) tk_fn (pma_cons (pm_var 0) pma_nil)))
  (pms_cons (pms_expr (pm_call (ok_need_name T) (hr.mono (by decide)) tk_fn (pma_cons (pm_var 0) (pma_cons (pm_var 1) pma_nil))))
  (pms_one (pms_ret (pm_call (ok_ears_that_count T) (hr.mono (by decide)) tk_fn (pma_cons (pm_ix ix_seq od_ix (pm_var 0) pm_int) (pma_cons (pm_ix ix_seq od_ix (pm_ix ix_seq od_ix (pm_var 0) pm_int) (pm_call (ok_number_of T) (hr.mono (by decide)) tk_fn (pma_cons (pm_var 0) (pma_cons (pm_var 1) pma_nil)))) pma_nil)))))))
abbrev N_lean_singer : List Str := ["many", "singer", "name", "ears", "table", "left", "places", "line", "place"]
theorem sc_lean_singer : FnScope N_lean_singer ["many", "singer"] (defScope s_lean_singer) := ⟨rfl, rfl, rfl, by decide +kernel, rfl, by decide +kernel, by decide +kernel⟩
theorem ok_lean_singer {P : Program} {w : World} {K : PySem.W.Frag} {mg : Str → Option Value} {base : Heap} (T : Tx K mg) : FnD P w K mg base 4 "lean_singer" ["many", "singer"] m_lean_singer := by
  obtain ⟨fd, D⟩ := T.f_lean_singer
  exact fn_mk D T.g_lean_singer sc_lean_singer (fun _ _ _ _ _ _ us hl => match us, hl with | [_, _], _ => rfl) (by decide) fun cdv A outer s H V E hr => (pms_cons (pms_asg (pm_var 1) (pmg_tup (pmgs_cons (pmg_name 2 sc_lean_singer.nd) (pmgs_cons (pmg_name 3 sc_lean_singer.nd) (pmgs_cons (pmg_name 4 sc_lean_singer.nd) pmgs_nil))) (gsC_len (gsC_len (gsC_len (fun _ _ _ h => gsN_len h))))))
  (pms_cons (pms_set 5 (pm_call (ok_ears_that_count T) (hr.mono (by decide)) tk_fn (pma_cons (pm_var 0) (pma_cons (pm_var 1) pma_nil))) sc_lean_singer.nd)
  (pms_cons (pms_if (pmt_cmp (op_eqD hr.units) od_eq (pm_var 5) (pm_var 3)) (pms_one (pms_ret (pm_var 1))) pms_nil)
  (pms_cons (pms_if (pmt_cmp (op_eqD hr.units) od_eq (pm_var 5) (pm_tup pma_nil)) (pms_one (pms_ret (pm_tup (pma_cons (pm_var 2) (pma_cons (pm_tup pma_nil) (pma_cons (pm_slice (pm_var 4) pmo_none (pmo_some pm_int)) pma_nil)))))) pms_nil)
  (pms_cons (pms_setLc 6 [("line", 7)] (pmi_range1 T.z_range (pma_cons (pm_var 0) pma_nil)) (blkOk_by (N := N_lean_singer) (sc := defScope s_lean_singer) (by decide +kernel)) sc_lean_singer.nd (fun _ _ _ _ _ => (pmg_name 7 sc_lean_singer.nd)) (fun _ _ _ _ _ => pmts_nil) (fun _ _ _ _ _ => (pm_if (pmt_cmp (op_eqD hr.units) od_eq (pm_ix ix_seq od_ix (pm_var 5) pm_int) (pm_ix ix_seq od_ix (pm_var 3) pm_int)) (pm_op op_mulD od_mul (pm_var 7) (pm_var 0)) (pm_var 7))))
  (pms_one (pms_ret (pm_tup (pma_cons (pm_var 2) (pma_cons (pm_var 5) (pma_cons (pm_callTy call_tuple_of cd_tuple T.z_tuple (pma_cons (pm_lc [("place", 8)] (pmi_seq (pm_var 6)) (blkOk_by (N := N_lean_singer) (sc := defScope s_lean_singer) (by decide +kernel)) sc_lean_singer.nd (fun _ _ _ _ _ => (pmg_name 8 sc_lean_singer.nd)) (fun _ _ _ _ _ => pmts_nil) (fun _ _ _ _ _ => (pm_ix ix_seq od_ix (pm_var 4) (pm_var 8)))) pma_nil)) pma_nil)))))))))))
abbrev N_leaned : List Str := ["choir", "singer"]
theorem sc_leaned : FnScope N_leaned ["choir"] (defScope s_leaned) := ⟨rfl, rfl, rfl, by decide +kernel, rfl, by decide +kernel, by decide +kernel⟩
theorem ok_leaned {P : Program} {w : World} {K : PySem.W.Frag} {mg : Str → Option Value} {base : Heap} (T : Tx K mg) : FnD P w K mg base 5 "leaned" ["choir"] m_leaned := by
  obtain ⟨fd, D⟩ := T.f_leaned
  exact fn_mk D T.g_leaned sc_leaned (fun _ _ _ _ _ _ us hl => match us, hl with | [_], _ => rfl) (by decide) fun cdv A outer s H V E hr => (pms_one (pms_ret (pm_tup (pma_cons (pm_ix ix_seq od_ix (pm_var 0) pm_int) (pma_cons (pm_callTy call_tuple_of cd_tuple T.z_tuple (pma_cons (pm_lc [("singer", 1)] (pmi_seq (pm_ix ix_seq od_ix (pm_var 0) pm_int)) (blkOk_by (N := N_leaned) (sc := defScope s_leaned) (by decide +kernel)) sc_leaned.nd (fun _ _ _ _ _ => (pmg_name 1 sc_leaned.nd)) (fun _ _ _ _ _ => pmts_nil) (fun _ _ _ _ _ => (pm_call (ok_lean_singer T) (hr.mono (by decide)) tk_nox (pma_cons (pm_ix ix_seq od_ix (pm_var 0) pm_int) (pma_cons (pm_var 1) pma_nil))))) pma_nil)) pma_nil)))))
abbrev N_need_first_rows : List Str := ["choir", "rows", "lines"]
theorem sc_need_first_rows : FnScope N_need_first_rows ["choir", "rows"] (defScope s_need_first_rows) := ⟨rfl, rfl, rfl, by decide +kernel, rfl, by decide +kernel, by decide +kernel⟩
theorem ok_need_first_rows {P : Program} {w : World} {K : PySem.W.Frag} {mg : Str → Option Value} {base : Heap} (T : Tx K mg) : FnD P w K mg base 3 "need_first_rows" ["choir", "rows"] m_need_first_rows := by
  obtain ⟨fd, D⟩ := T.f_need_first_rows
  exact fn_mk D T.g_need_first_rows sc_need_first_rows (fun _ _ _ _ _ _ us hl => match us, hl with | [_, _], _ => rfl) (by decide) fun cdv A outer s H V E hr => (pms_cons (pms_if (pmt_w (pmw_or (pmt_not (pmt_val (pm_isi .list T.z_isinstance T.z_list (pm_var 1)))) (pmw_or1 (pmt_cmp op_gt od_gt (pm_callB call_len cd_len T.z_len (pma_cons (pm_var 1) pma_nil)) pm_int)))) (pms_one (pms_raise T.x_BadRows tk_fn)) pms_nil)
  (pms_one (pms_if (pmt_not (pmt_val (pm_callB (cr_all rfl) cd_all T.z_all (pma_cons (pm_lc [("lines", 2)] (pmi_seq (pm_var 1)) (blkOk_by (N := N_need_first_rows) (sc := defScope s_need_first_rows) (by decide +kernel)) sc_need_first_rows.nd (fun _ _ _ _ _ => (pmg_name 2 sc_need_first_rows.nd)) (fun _ _ _ _ _ => pmts_nil) (fun _ _ _ _ _ => (pm_call (ok_are_lines T) (hr.mono (by decide)) tk_nox (pma_cons (pm_var 2) (pma_cons (pm_callB call_len cd_len T.z_len (pma_cons (pm_ix ix_seq od_ix (pm_var 0) pm_int) pma_nil)) (pma_cons (pm_ix ix_seq od_ix (pm_var 0) pm_int) pma_nil)))))) pma_nil)))) (pms_one (pms_raise T.x_BadRows tk_fn)) pms_nil)))
abbrev N_spots_for : List Str := ["choir", "rows", "ears", "beat", "found", "name", "ago", "at"]
theorem sc_spots_for : FnScope N_spots_for ["choir", "rows", "ears", "beat"] (defScope s_spots_for) := ⟨rfl, rfl, rfl, by decide +kernel, rfl, by decide +kernel, by decide +kernel⟩
theorem ok_spots_for {P : Program} {w : World} {K : PySem.W.Frag} {mg : Str → Option Value} {base : Heap} (T : Tx K mg) : FnD P w K mg base 3 "spots_for" ["choir", "rows", "ears", "beat"] m_spots_for := by
  obtain ⟨fd, D⟩ := T.f_spots_for
  exact fn_mk D T.g_spots_for sc_spots_for (fun _ _ _ _ _ _ us hl => match us, hl with | [_, _, _, _], _ => rfl) (by decide) fun cdv A outer s H V E hr => (pms_cons (pms_own 4 pma_nil sc_spots_for.nd)
  (pms_cons (pms_for (passes_of rfl) (pmi_seq (pm_var 2)) (pmg_tup (pmgs_cons (pmg_name 5 sc_spots_for.nd) (pmgs_cons (pmg_name 6 sc_spots_for.nd) pmgs_nil)) (gsC_len (gsC_len (fun _ _ _ h => gsN_len h))))
  (pms_cons (pms_set 7 (pm_call (ok_number_of T) (hr.mono (by decide)) tk_fn (pma_cons (pm_var 0) (pma_cons (pm_var 5) pma_nil))) sc_spots_for.nd)
  (pms_one (pms_app 4 (pm_if (pmt_cmp op_ge od_ge (pm_var 3) (pm_var 6)) (pm_ix ix_seq od_ix (pm_ix ix_seq od_ix (pm_var 1) (pm_op op_sub od_sub (pm_var 3) (pm_var 6))) (pm_var 7)) (pm_tup (pma_cons (pm_var 7) (pma_cons (pm_op op_sub od_sub (pm_var 6) (pm_var 3)) pma_nil))))))))
  (pms_one (pms_dem false (pms_ret (pm_var 4))))))
abbrev N_lines_for : List Str := ["known", "spots", "spot"]
theorem sc_lines_for : FnScope N_lines_for ["known", "spots"] (defScope s_lines_for) := ⟨rfl, rfl, rfl, by decide +kernel, rfl, by decide +kernel, by decide +kernel⟩
theorem ok_lines_for {P : Program} {w : World} {K : PySem.W.Frag} {mg : Str → Option Value} {base : Heap} (T : Tx K mg) : FnD P w K mg base 1 "lines_for" ["known", "spots"] m_lines_for := by
  obtain ⟨fd, D⟩ := T.f_lines_for
  exact fn_mk D T.g_lines_for sc_lines_for (fun _ _ _ _ _ _ us hl => match us, hl with | [_, _], _ => rfl) (by decide) fun cdv A outer s H V E hr => (pms_one (pms_ret (pm_lc [("spot", 2)] (pmi_seq (pm_var 1)) (blkOk_by (N := N_lines_for) (sc := defScope s_lines_for) (by decide +kernel)) sc_lines_for.nd (fun _ _ _ _ _ => (pmg_name 2 sc_lines_for.nd)) (fun _ _ _ _ _ => pmts_nil) (fun _ _ _ _ _ => (pm_if (pmt_val (pm_isi .tuple T.z_isinstance T.z_tuple (pm_var 2))) (pm_dix hr.units (pm_var 0) (pm_var 2)) (pm_var 2))))))
abbrev N_widened : List Str := ["many", "known", "spots", "found", "spot", "some", "one", "line", "more"]
theorem sc_widened : FnScope N_widened ["many", "known", "spots"] (defScope s_widened) := ⟨rfl, rfl, rfl, by decide +kernel, rfl, by decide +kernel, by decide +kernel⟩
theorem ok_widened {P : Program} {w : World} {K : PySem.W.Frag} {mg : Str → Option Value} {base : Heap} (T : Tx K mg) : FnD P w K mg base 1 "widened" ["many", "known", "spots"] m_widened := by
  obtain ⟨fd, D⟩ := T.f_widened
  exact fn_mk D T.g_widened sc_widened (fun _ _ _ _ _ _ us hl => match us, hl with | [_, _, _], _ => rfl) (by decide) fun cdv A outer s H V E hr => (pms_cons (pms_set 3 (pm_lst (pma_cons (pm_var 1) pma_nil)) sc_widened.nd)
  (pms_cons (pms_for (passes_of rfl) (pmi_seq (pm_var 2)) (pmg_name 4 sc_widened.nd)
  (pms_one (pms_if (pmt_w (pmw_and (pmt_val (pm_isi .tuple T.z_isinstance T.z_tuple (pm_var 4))) (pmw_and1 (pmt_cmp (op_notInX hr.units) od_notInX (pm_var 4) (pm_var 1))))) (pms_cons (pms_own 5 pma_nil sc_widened.nd)
  (pms_cons (pms_for (passes_of rfl) (pmi_seq (pm_var 3)) (pmg_name 6 sc_widened.nd)
  (pms_one (pms_for (passes_of rfl) (pmi_range1 T.z_range (pma_cons (pm_var 0) pma_nil)) (pmg_name 7 sc_widened.nd)
  (pms_cons (pms_ownF 8 (pmf_dictC T.z_dict hr.units (pma_cons (pm_var 6) pma_nil)) sc_widened.nd)
  (pms_cons (pms_dset 8 hr.units (pm_var 7) (pm_var 4))
  (pms_one (pms_let 8 (pms_app 5 (pm_var 8)))))))))
  (pms_one (pms_mov 3 5 sc_widened.nd)))) pms_nil)))
  (pms_one (pms_ret (pm_var 3)))))
abbrev N_all_known : List Str := ["choir", "rows", "found", "lean_one", "beat", "lines", "at", "name", "ears", "table", "spots", "some", "known", "one"]
theorem sc_all_known : FnScope N_all_known ["choir", "rows"] (defScope s_all_known) := ⟨rfl, rfl, rfl, by decide +kernel, rfl, by decide +kernel, by decide +kernel⟩
theorem ok_all_known {P : Program} {w : World} {K : PySem.W.Frag} {mg : Str → Option Value} {base : Heap} (T : Tx K mg) : FnD P w K mg base 6 "all_known" ["choir", "rows"] m_all_known := by
  obtain ⟨fd, D⟩ := T.f_all_known
  exact fn_mk D T.g_all_known sc_all_known (fun _ _ _ _ _ _ us hl => match us, hl with | [_, _], _ => rfl) (by decide) fun cdv A outer s H V E hr => (pms_cons (pms_par 2 3 (pma_cons (pm_lst (pma_cons pm_dnew pma_nil)) (pma_cons (pm_call (ok_leaned T) (hr.mono (by decide)) tk_fn (pma_cons (pm_var 0) pma_nil)) pma_nil)) sc_all_known.nd)
  (pms_cons (pms_for (passes_of rfl) (pmi_enum T.z_enumerate (pma_cons (pm_var 1) pma_nil)) (pmg_tup (pmgs_cons (pmg_name 4 sc_all_known.nd) (pmgs_cons (pmg_name 5 sc_all_known.nd) pmgs_nil)) (gsC_len (gsC_len (fun _ _ _ h => gsN_len h))))
  (pms_one (pms_for (passes_of rfl) (pmi_enum T.z_enumerate (pma_cons (pm_ix ix_seq od_ix (pm_var 3) pm_int) pma_nil)) (pmg_tup (pmgs_cons (pmg_name 6 sc_all_known.nd) (pmgs_cons (pmg_tup (pmgs_cons (pmg_name 7 sc_all_known.nd) (pmgs_cons (pmg_name 8 sc_all_known.nd) (pmgs_cons (pmg_name 9 sc_all_known.nd) pmgs_nil))) (gsC_len (gsC_len (gsC_len (fun _ _ _ h => gsN_len h))))) pmgs_nil)) (gsC_len (gsC_len (fun _ _ _ h => gsN_len h))))
  (pms_cons (pms_par2 10 11 (pmx_sh (pm_call (ok_spots_for T) (hr.mono (by decide)) tk_fn (pma_cons (pm_var 0) (pma_cons (pm_var 1) (pma_cons (pm_var 8) (pma_cons (pm_var 4) pma_nil))))) (pmx_ow (pmf_lst pma_nil) pmx_nil)) sc_all_known.nd)
  (pms_cons (pms_for (passes_of rfl) (pmi_seq (pm_var 2)) (pmg_name 12 sc_all_known.nd)
  (pms_one (pms_for (passes_of rfl) (pmi_seq (pm_call (ok_widened T) (hr.mono (by decide)) tk_fn (pma_cons (pm_ix ix_seq od_ix (pm_var 0) pm_int) (pma_cons (pm_var 12) (pma_cons (pm_var 10) pma_nil))))) (pmg_name 13 sc_all_known.nd)
  (pms_one (pms_if (pmt_cmp (op_eqD hr.units) od_eq (pm_ix ix_seq od_ix (pm_var 9) (pm_call (ok_place_of T) (hr.mono (by decide)) tk_fn (pma_cons (pm_ix ix_seq od_ix (pm_var 0) pm_int) (pma_cons (pm_call (ok_lines_for T) (hr.mono (by decide)) tk_fn (pma_cons (pm_var 13) (pma_cons (pm_var 10) pma_nil))) pma_nil)))) (pm_ix ix_seq od_ix (pm_var 5) (pm_var 6))) (pms_one (pms_app 11 (pm_var 13))) pms_nil)))))
  (pms_one (pms_mov 2 11 sc_all_known.nd)))))))
  (pms_cons (pms_if (pmt_cmp op_gt od_gt (pm_callB call_len cd_len T.z_len (pma_cons (pm_var 2) pma_nil)) (pm_gint T.c_MOST_BEGINNINGS)) (pms_one (pms_raise T.x_Full tk_fn)) pms_nil)
  (pms_one (pms_ret (pm_var 2))))))
abbrev N_as_standing : List Str := ["choir", "known", "found", "at", "ago"]
theorem sc_as_standing : FnScope N_as_standing ["choir", "known"] (defScope s_as_standing) := ⟨rfl, rfl, rfl, by decide +kernel, rfl, by decide +kernel, by decide +kernel⟩
theorem ok_as_standing {P : Program} {w : World} {K : PySem.W.Frag} {mg : Str → Option Value} {base : Heap} (T : Tx K mg) : FnD P w K mg base 1 "as_standing" ["choir", "known"] m_as_standing := by
  obtain ⟨fd, D⟩ := T.f_as_standing
  exact fn_mk D T.g_as_standing sc_as_standing (fun _ _ _ _ _ _ us hl => match us, hl with | [_, _], _ => rfl) (by decide) fun cdv A outer s H V E hr => (pms_cons (pms_own 2 pma_nil sc_as_standing.nd)
  (pms_cons (pms_for (passes_of rfl) (pmi_range1 T.z_range (pma_cons (pm_callB call_len cd_len T.z_len (pma_cons (pm_ix ix_seq od_ix (pm_var 0) pm_int) pma_nil)) pma_nil)) (pmg_name 3 sc_as_standing.nd)
  (pms_one (pms_app 2 (pm_callTy call_tuple_of cd_tuple T.z_tuple (pma_cons (pm_lc [("ago", 4)] (pmi_seq (pm_tup (pma_cons pm_int (pma_cons pm_int (pma_cons pm_int pma_nil))))) (blkOk_by (N := N_as_standing) (sc := defScope s_as_standing) (by decide +kernel)) sc_as_standing.nd (fun _ _ _ _ _ => (pmg_name 4 sc_as_standing.nd)) (fun _ _ _ _ _ => pmts_nil) (fun _ _ _ _ _ => (pm_dget2 hr.units (pm_var 1) (pm_tup (pma_cons (pm_var 3) (pma_cons (pm_var 4) pma_nil))) pm_int))) pma_nil)))))
  (pms_one (pms_ret (pm_brw false (pm_callTy call_tuple_of cd_tuple T.z_tuple (pma_cons (pm_var 2) pma_nil)))))))
abbrev N_must_begin : List Str := ["choir", "rows", "some", "found", "at", "row", "known", "spot", "lines", "one"]
theorem sc_must_begin : FnScope N_must_begin ["choir", "rows"] (defScope s_must_begin) := ⟨rfl, rfl, rfl, by decide +kernel, rfl, by decide +kernel, by decide +kernel⟩
theorem ok_must_begin {P : Program} {w : World} {K : PySem.W.Frag} {mg : Str → Option Value} {base : Heap} (T : Tx K mg) : FnD P w K mg base 7 "must_begin" ["choir", "rows"] m_must_begin := by
  obtain ⟨fd, D⟩ := T.f_must_begin
  exact fn_mk D T.g_must_begin sc_must_begin (fun _ _ _ _ _ _ us hl => match us, hl with | [_, _], _ => rfl) (by decide) fun cdv A outer s H V E hr => (pms_cons (pms_expr (pm_call (ok_need_choir T) (hr.mono (by decide)) tk_fn (pma_cons (pm_var 0) pma_nil)))
  (pms_cons (pms_expr (pm_call (ok_need_first_rows T) (hr.mono (by decide)) tk_fn (pma_cons (pm_var 0) (pma_cons (pm_var 1) pma_nil))))
  (pms_cons (pms_set 2 (pm_lc [("known", 6)] (pmi_seq (pm_call (ok_all_known T) (hr.mono (by decide)) tk_fn (pma_cons (pm_var 0) (pma_cons (pm_var 1) pma_nil)))) (blkOk_by (N := N_must_begin) (sc := defScope s_must_begin) (by decide +kernel)) sc_must_begin.nd (fun _ _ _ _ _ => (pmg_name 6 sc_must_begin.nd)) (fun _ _ _ _ _ => pmts_nil) (fun _ _ _ _ _ => (pm_call (ok_as_standing T) (hr.mono (by decide)) tk_nox (pma_cons (pm_var 0) (pma_cons (pm_var 6) pma_nil))))) sc_must_begin.nd)
  (pms_cons (pms_if (pmt_cmp (op_eqD hr.units) od_eq (pm_var 2) (pm_lst pma_nil)) (pms_one (pms_raise T.x_Nothing tk_fn)) pms_nil)
  (pms_cons (pms_own 3 pma_nil sc_must_begin.nd)
  (pms_cons (pms_for (passes_of rfl) (pmi_range1 T.z_range (pma_cons (pm_callB call_len cd_len T.z_len (pma_cons (pm_ix ix_seq od_ix (pm_var 0) pm_int) pma_nil)) pma_nil)) (pmg_name 4 sc_must_begin.nd)
  (pms_cons (pms_setLc 5 [("spot", 7)] (pmi_range1 T.z_range (pma_cons pm_int pma_nil)) (blkOk_by (N := N_must_begin) (sc := defScope s_must_begin) (by decide +kernel)) sc_must_begin.nd (fun _ _ _ _ _ => (pmg_name 7 sc_must_begin.nd)) (fun _ _ _ _ _ => pmts_nil) (fun _ _ _ _ _ => (pm_sortSet T.z_sorted T.z_set (pm_lc [("one", 9)] (pmi_seq (pm_var 2)) (by exact blkOk_by (by kernel_rfl)) sc_must_begin.nd (fun _ _ _ _ _ => (pmg_name 9 sc_must_begin.nd)) (fun _ _ _ _ _ => pmts_nil) (fun _ _ _ _ _ => (pm_ix ix_seq od_ix (pm_ix ix_seq od_ix (pm_var 9) (pm_var 4)) (pm_var 7)))))))
  (pms_one (pms_app 3 (pm_callTy call_tuple_of cd_tuple T.z_tuple (pma_cons (pm_lc [("lines", 8)] (pmi_seq (pm_var 5)) (blkOk_by (N := N_must_begin) (sc := defScope s_must_begin) (by decide +kernel)) sc_must_begin.nd (fun _ _ _ _ _ => (pmg_name 8 sc_must_begin.nd)) (fun _ _ _ _ _ => pmts_nil) (fun _ _ _ _ _ => (pm_if (pmt_cmp (op_eqD hr.units) od_eq (pm_callB call_len cd_len T.z_len (pma_cons (pm_var 8) pma_nil)) pm_int) (pm_ix ix_seq od_ix (pm_var 8) pm_int) pm_non))) pma_nil))))))
  (pms_one (pms_ret (pm_brw false (pm_callTy call_tuple_of cd_tuple T.z_tuple (pma_cons (pm_var 3) pma_nil)))))))))))
abbrev N_need_both : List Str := ["choir", "standing"]
theorem sc_need_both : FnScope N_need_both ["choir", "standing"] (defScope s_need_both) := ⟨rfl, rfl, rfl, by decide +kernel, rfl, by decide +kernel, by decide +kernel⟩
theorem ok_need_both {P : Program} {w : World} {K : PySem.W.Frag} {mg : Str → Option Value} {base : Heap} (T : Tx K mg) : FnD P w K mg base 7 "need_both" ["choir", "standing"] m_need_both := by
  obtain ⟨fd, D⟩ := T.f_need_both
  exact fn_mk D T.g_need_both sc_need_both (fun _ _ _ _ _ _ us hl => match us, hl with | [_, _], _ => rfl) (by decide) fun cdv A outer s H V E hr => (pms_cons (pms_expr (pm_call (ok_need_choir T) (hr.mono (by decide)) tk_fn (pma_cons (pm_var 0) pma_nil)))
  (pms_one (pms_expr (pm_call (ok_need_standing T) (hr.mono (by decide)) tk_fn (pma_cons (pm_var 0) (pma_cons (pm_var 1) pma_nil))))))
abbrev N_need_beats : List Str := ["beats"]
theorem sc_need_beats : FnScope N_need_beats ["beats"] (defScope s_need_beats) := ⟨rfl, rfl, rfl, by decide +kernel, rfl, by decide +kernel, by decide +kernel⟩
theorem ok_need_beats {P : Program} {w : World} {K : PySem.W.Frag} {mg : Str → Option Value} {base : Heap} (T : Tx K mg) : FnD P w K mg base 2 "need_beats" ["beats"] m_need_beats := by
  obtain ⟨fd, D⟩ := T.f_need_beats
  exact fn_mk D T.g_need_beats sc_need_beats (fun _ _ _ _ _ _ us hl => match us, hl with | [_], _ => rfl) (by decide) fun cdv A outer s H V E hr => (pms_one (pms_if (pmt_not (pmt_val (pm_call (ok_is_whole T) (hr.mono (by decide)) tk_fn (pma_cons (pm_var 0) (pma_cons pm_int (pma_cons (pm_gint T.c_LONGEST) pma_nil)))))) (pms_one (pms_raise T.x_BadNumber tk_fn)) pms_nil))
abbrev N_rows_of : List Str := ["choir", "standing", "beats", "found", "turn"]
theorem sc_rows_of : FnScope N_rows_of ["choir", "standing", "beats"] (defScope s_rows_of) := ⟨rfl, rfl, rfl, by decide +kernel, rfl, by decide +kernel, by decide +kernel⟩
theorem ok_rows_of {P : Program} {w : World} {K : PySem.W.Frag} {mg : Str → Option Value} {base : Heap} (T : Tx K mg) : FnD P w K mg base 7 "rows_of" ["choir", "standing", "beats"] m_rows_of := by
  obtain ⟨fd, D⟩ := T.f_rows_of
  exact fn_mk D T.g_rows_of sc_rows_of (fun _ _ _ _ _ _ us hl => match us, hl with | [_, _, _], _ => rfl) (by decide) fun cdv A outer s H V E hr => (pms_cons (pms_own 3 pma_nil sc_rows_of.nd)
  (pms_cons (pms_for (passes_of rfl) (pmi_range1 T.z_range (pma_cons (pm_var 2) pma_nil)) (pmg_name 4 sc_rows_of.nd)
  (pms_cons (pms_app 3 (pm_call (ok_all_next T) (hr.mono (by decide)) tk_fn (pma_cons (pm_var 0) (pma_cons (pm_var 1) pma_nil))))
  (pms_one (pms_set 1 (pm_call (ok_on T) (hr.mono (by decide)) tk_fn (pma_cons (pm_var 0) (pma_cons (pm_var 1) pma_nil))) sc_rows_of.nd))))
  (pms_one (pms_dem false (pms_ret (pm_var 3))))))
abbrev N_song : List Str := ["choir", "standing", "beats"]
theorem sc_song : FnScope N_song ["choir", "standing", "beats"] (defScope s_song) := ⟨rfl, rfl, rfl, by decide +kernel, rfl, by decide +kernel, by decide +kernel⟩
theorem ok_song {P : Program} {w : World} {K : PySem.W.Frag} {mg : Str → Option Value} {base : Heap} (T : Tx K mg) : FnD P w K mg base 8 "song" ["choir", "standing", "beats"] m_song := by
  obtain ⟨fd, D⟩ := T.f_song
  exact fn_mk D T.g_song sc_song (fun _ _ _ _ _ _ us hl => match us, hl with | [_, _, _], _ => rfl) (by decide) fun cdv A outer s H V E hr => (pms_cons (pms_expr (pm_call (ok_need_both T) (hr.mono (by decide)) tk_fn (pma_cons (pm_var 0) (pma_cons (pm_var 1) pma_nil))))
  (pms_cons (pms_expr (pm_call (ok_need_beats T) (hr.mono (by decide)) tk_fn (pma_cons (pm_var 2) pma_nil)))
  (pms_one (pms_ret (pm_call (ok_rows_of T) (hr.mono (by decide)) tk_fn (pma_cons (pm_var 0) (pma_cons (pm_var 1) (pma_cons (pm_var 2) pma_nil))))))))
abbrev N_walked : List Str := ["choir", "standing", "known", "row"]
theorem sc_walked : FnScope N_walked ["choir", "standing"] (defScope s_walked) := ⟨rfl, rfl, rfl, by decide +kernel, rfl, by decide +kernel, by decide +kernel⟩
theorem ok_walked {P : Program} {w : World} {K : PySem.W.Frag} {mg : Str → Option Value} {base : Heap} (T : Tx K mg) : FnD P w K mg base 7 "walked" ["choir", "standing"] m_walked := by
  obtain ⟨fd, D⟩ := T.f_walked
  exact fn_mk D T.g_walked sc_walked (fun _ _ _ _ _ _ us hl => match us, hl with | [_, _], _ => rfl) (by decide) fun cdv A outer s H V E hr => (pms_cons (pms_par2 2 3 (pmx_ow pmf_dnew (pmx_ow (pmf_lst pma_nil) pmx_nil)) sc_walked.nd)
  (pms_cons (pms_while 100000 (passes_of rfl) (pmt_brw false (pmt_cmp (op_notInX hr.units) od_notInX (pm_var 1) (pm_var 2)))
  (pms_cons (pms_dset 2 hr.units (pm_brw false (pm_callB call_len cd_len T.z_len (pma_cons (pm_var 3) pma_nil))) (pm_var 1))
  (pms_cons (pms_app 3 (pm_var 1))
  (pms_cons (pms_set 1 (pm_call (ok_on T) (hr.mono (by decide)) tk_fn (pma_cons (pm_var 0) (pma_cons (pm_var 1) pma_nil))) sc_walked.nd)
  (pms_one (pms_if (pmt_cmp (op_eqD hr.units) od_eq (pm_brw false (pm_callB call_len cd_len T.z_len (pma_cons (pm_var 3) pma_nil))) (pm_gint T.c_MOST_AHEAD)) (pms_one (pms_raise T.x_Full tk_fn)) pms_nil))))))
  (pms_one (pms_dem false (pms_ret (pm_tup (pma_cons (pm_var 3) (pma_cons (pm_dix hr.units (pm_var 2) (pm_var 1)) pma_nil))))))))
abbrev N_round_of : List Str := ["choir", "standing", "row", "first"]
theorem sc_round_of : FnScope N_round_of ["choir", "standing"] (defScope s_round_of) := ⟨rfl, rfl, rfl, by decide +kernel, rfl, by decide +kernel, by decide +kernel⟩
theorem ok_round_of {P : Program} {w : World} {K : PySem.W.Frag} {mg : Str → Option Value} {base : Heap} (T : Tx K mg) : FnD P w K mg base 8 "round_of" ["choir", "standing"] m_round_of := by
  obtain ⟨fd, D⟩ := T.f_round_of
  exact fn_mk D T.g_round_of sc_round_of (fun _ _ _ _ _ _ us hl => match us, hl with | [_, _], _ => rfl) (by decide) fun cdv A outer s H V E hr => (pms_cons (pms_expr (pm_call (ok_need_both T) (hr.mono (by decide)) tk_fn (pma_cons (pm_var 0) (pma_cons (pm_var 1) pma_nil))))
  (pms_cons (pms_asg (pm_call (ok_walked T) (hr.mono (by decide)) tk_fn (pma_cons (pm_var 0) (pma_cons (pm_var 1) pma_nil))) (pmg_tup (pmgs_cons (pmg_name 2 sc_round_of.nd) (pmgs_cons (pmg_name 3 sc_round_of.nd) pmgs_nil)) (gsC_len (gsC_len (fun _ _ _ h => gsN_len h)))))
  (pms_one (pms_ret (pm_tup (pma_cons (pm_var 3) (pma_cons (pm_op op_sub od_sub (pm_callB call_len cd_len T.z_len (pma_cons (pm_var 2) pma_nil)) (pm_var 3)) pma_nil)))))))
abbrev N_is_lead : List Str := ["choir", "spot", "line"]
theorem sc_is_lead : FnScope N_is_lead ["choir", "spot", "line"] (defScope s_is_lead) := ⟨rfl, rfl, rfl, by decide +kernel, rfl, by decide +kernel, by decide +kernel⟩
theorem ok_is_lead {P : Program} {w : World} {K : PySem.W.Frag} {mg : Str → Option Value} {base : Heap} (T : Tx K mg) : FnD P w K mg base 2 "is_lead" ["choir", "spot", "line"] m_is_lead := by
  obtain ⟨fd, D⟩ := T.f_is_lead
  exact fn_mk D T.g_is_lead sc_is_lead (fun _ _ _ _ _ _ us hl => match us, hl with | [_, _, _], _ => rfl) (by decide) fun cdv A outer s H V E hr => (pms_cons (pms_if (pmt_w (pmw_or (pmt_not (pmt_val (pm_isi .tuple T.z_isinstance T.z_tuple (pm_var 1)))) (pmw_or (pmt_cmp (op_neD hr.units) od_ne (pm_callB call_len cd_len T.z_len (pma_cons (pm_var 1) pma_nil)) pm_int) (pmw_or1 (pmt_not (pmt_val (pm_call (ok_is_whole T) (hr.mono (by decide)) tk_fn (pma_cons (pm_ix ix_seq od_ix (pm_var 1) pm_int) (pma_cons pm_int (pma_cons (pm_op op_sub od_sub (pm_gint T.c_LONGEST) pm_int) pma_nil)))))))))) (pms_one (pms_ret pm_bl)) pms_nil)
  (pms_one (pms_ret (pm_and (pm_isi .str T.z_isinstance T.z_str (pm_ix ix_seq od_ix (pm_var 1) pm_int)) (pm_and (pm_cmp (op_inAll (u65 hr)) od_in (pm_ix ix_seq od_ix (pm_var 1) pm_int) (pm_call (ok_all_names T) (hr.mono (by decide)) tk_fn (pma_cons (pm_var 0) pma_nil))) (pm_one (pm_call (ok_is_whole T) (hr.mono (by decide)) tk_fn (pma_cons (pm_var 2) (pma_cons pm_int (pma_cons (pm_op op_sub od_sub (pm_ix ix_seq od_ix (pm_var 0) pm_int) pm_int) pma_nil))))))))))
abbrev N_need_leads : List Str := ["choir", "leads", "spot"]
theorem sc_need_leads : FnScope N_need_leads ["choir", "leads"] (defScope s_need_leads) := ⟨rfl, rfl, rfl, by decide +kernel, rfl, by decide +kernel, by decide +kernel⟩
theorem ok_need_leads {P : Program} {w : World} {K : PySem.W.Frag} {mg : Str → Option Value} {base : Heap} (T : Tx K mg) : FnD P w K mg base 3 "need_leads" ["choir", "leads"] m_need_leads := by
  obtain ⟨fd, D⟩ := T.f_need_leads
  exact fn_mk D T.g_need_leads sc_need_leads (fun _ _ _ _ _ _ us hl => match us, hl with | [_, _], _ => rfl) (by decide) fun cdv A outer s H V E hr => (pms_one (pms_if (pmt_w (pmw_or (pmt_not (pmt_val (pm_isi .dict T.z_isinstance T.z_dict (pm_var 1)))) (pmw_or1 (pmt_not (pmt_val (pm_callB (cr_all rfl) cd_all T.z_all (pma_cons (pm_lc [("spot", 2)] (pmi_dict (pm_var 1)) (blkOk_by (N := N_need_leads) (sc := defScope s_need_leads) (by decide +kernel)) sc_need_leads.nd (fun _ _ _ _ _ => (pmg_name 2 sc_need_leads.nd)) (fun _ _ _ _ _ => pmts_nil) (fun _ _ _ _ _ => (pm_call (ok_is_lead T) (hr.mono (by decide)) tk_nox (pma_cons (pm_var 0) (pma_cons (pm_var 2) (pma_cons (pm_dix hr.units (pm_var 1) (pm_var 2)) pma_nil)))))) pma_nil))))))) (pms_one (pms_raise T.x_BadLead tk_fn)) pms_nil))
abbrev N_led_lines : List Str := ["choir", "standing", "leads", "beat", "pairs", "name", "line"]
theorem sc_led_lines : FnScope N_led_lines ["choir", "standing", "leads", "beat"] (defScope s_led_lines) := ⟨rfl, rfl, rfl, by decide +kernel, rfl, by decide +kernel, by decide +kernel⟩
theorem ok_led_lines {P : Program} {w : World} {K : PySem.W.Frag} {mg : Str → Option Value} {base : Heap} (T : Tx K mg) : FnD P w K mg base 6 "led_lines" ["choir", "standing", "leads", "beat"] m_led_lines := by
  obtain ⟨fd, D⟩ := T.f_led_lines
  exact fn_mk D T.g_led_lines sc_led_lines (fun _ _ _ _ _ _ us hl => match us, hl with | [_, _, _, _], _ => rfl) (by decide) fun cdv A outer s H V E hr => (pms_cons (pms_set 4 (pm_lzip T.z_list T.z_zip (pma_cons (pm_call (ok_all_names T) (hr.mono (by decide)) tk_fn (pma_cons (pm_var 0) pma_nil)) (pma_cons (pm_call (ok_all_next T) (hr.mono (by decide)) tk_fn (pma_cons (pm_var 0) (pma_cons (pm_var 1) pma_nil))) pma_nil))) sc_led_lines.nd)
  (pms_one (pms_ret (pm_callTy call_tuple_of cd_tuple T.z_tuple (pma_cons (pm_lc [("name", 5), ("line", 6)] (pmi_seq (pm_var 4)) (blkOk_by (N := N_led_lines) (sc := defScope s_led_lines) (by decide +kernel)) sc_led_lines.nd (fun _ _ _ _ _ => (pmg_tup (pmgs_cons (pmg_name 5 sc_led_lines.nd) (pmgs_cons (pmg_name 6 sc_led_lines.nd) pmgs_nil)) (gsC_len (gsC_len (fun _ _ _ h => gsN_len h))))) (fun _ _ _ _ _ => pmts_nil) (fun _ _ _ _ _ => (pm_dget2 hr.units (pm_var 2) (pm_tup (pma_cons (pm_var 3) (pma_cons (pm_var 5) pma_nil))) (pm_var 6)))) pma_nil)))))
abbrev N_led_rows : List Str := ["choir", "standing", "leads", "beats", "found", "standings", "beat"]
theorem sc_led_rows : FnScope N_led_rows ["choir", "standing", "leads", "beats"] (defScope s_led_rows) := ⟨rfl, rfl, rfl, by decide +kernel, rfl, by decide +kernel, by decide +kernel⟩
theorem ok_led_rows {P : Program} {w : World} {K : PySem.W.Frag} {mg : Str → Option Value} {base : Heap} (T : Tx K mg) : FnD P w K mg base 7 "led_rows" ["choir", "standing", "leads", "beats"] m_led_rows := by
  obtain ⟨fd, D⟩ := T.f_led_rows
  exact fn_mk D T.g_led_rows sc_led_rows (fun _ _ _ _ _ _ us hl => match us, hl with | [_, _, _, _], _ => rfl) (by decide) fun cdv A outer s H V E hr => (pms_cons (pms_par2 4 5 (pmx_ow (pmf_lst pma_nil) (pmx_ow (pmf_lst pma_nil) pmx_nil)) sc_led_rows.nd)
  (pms_cons (pms_for (passes_of rfl) (pmi_range1 T.z_range (pma_cons (pm_var 3) pma_nil)) (pmg_name 6 sc_led_rows.nd)
  (pms_cons (pms_app 5 (pm_var 1))
  (pms_cons (pms_app 4 (pm_call (ok_led_lines T) (hr.mono (by decide)) tk_fn (pma_cons (pm_var 0) (pma_cons (pm_var 1) (pma_cons (pm_var 2) (pma_cons (pm_var 6) pma_nil))))))
  (pms_one (pms_set 1 (pm_call (ok_behind T) (hr.mono (by decide)) tk_fn (pma_cons (pm_var 1) (pma_cons (pm_ixO 4 (pm_un un_neg od_neg pm_int)) pma_nil))) sc_led_rows.nd)))))
  (pms_one (pms_dem false (pms_ret (pm_tup (pma_cons (pm_var 4) (pma_cons (pm_var 5) pma_nil))))))))
abbrev N_led_song : List Str := ["choir", "standing", "leads", "beats"]
theorem sc_led_song : FnScope N_led_song ["choir", "standing", "leads", "beats"] (defScope s_led_song) := ⟨rfl, rfl, rfl, by decide +kernel, rfl, by decide +kernel, by decide +kernel⟩
theorem ok_led_song {P : Program} {w : World} {K : PySem.W.Frag} {mg : Str → Option Value} {base : Heap} (T : Tx K mg) : FnD P w K mg base 8 "led_song" ["choir", "standing", "leads", "beats"] m_led_song := by
  obtain ⟨fd, D⟩ := T.f_led_song
  exact fn_mk D T.g_led_song sc_led_song (fun _ _ _ _ _ _ us hl => match us, hl with | [_, _, _, _], _ => rfl) (by decide) fun cdv A outer s H V E hr => (pms_cons (pms_expr (pm_call (ok_need_both T) (hr.mono (by decide)) tk_fn (pma_cons (pm_var 0) (pma_cons (pm_var 1) pma_nil))))
  (pms_cons (pms_expr (pm_call (ok_need_leads T) (hr.mono (by decide)) tk_fn (pma_cons (pm_var 0) (pma_cons (pm_var 2) pma_nil))))
  (pms_cons (pms_expr (pm_call (ok_need_beats T) (hr.mono (by decide)) tk_fn (pma_cons (pm_var 3) pma_nil)))
  (pms_one (pms_ret (pm_ix ix_seq od_ix (pm_call (ok_led_rows T) (hr.mono (by decide)) tk_fn (pma_cons (pm_var 0) (pma_cons (pm_var 1) (pma_cons (pm_var 2) (pma_cons (pm_var 3) pma_nil))))) pm_int))))))
abbrev N_singer_text : List Str := ["singer", "name", "ears", "table", "some", "one", "ago", "line"]
theorem sc_singer_text : FnScope N_singer_text ["singer"] (defScope s_singer_text) := ⟨rfl, rfl, rfl, by decide +kernel, rfl, by decide +kernel, by decide +kernel⟩
theorem ok_singer_text {P : Program} {w : World} {K : PySem.W.Frag} {mg : Str → Option Value} {base : Heap} (T : Tx K mg) : FnD P w K mg base 1 "singer_text" ["singer"] m_singer_text := by
  obtain ⟨fd, D⟩ := T.f_singer_text
  exact fn_mk D T.g_singer_text sc_singer_text (fun _ _ _ _ _ _ us hl => match us, hl with | [_], _ => rfl) (by decide) fun cdv A outer s H V E hr => (pms_cons (pms_asg (pm_var 0) (pmg_tup (pmgs_cons (pmg_name 1 sc_singer_text.nd) (pmgs_cons (pmg_name 2 sc_singer_text.nd) (pmgs_cons (pmg_name 3 sc_singer_text.nd) pmgs_nil))) (gsC_len (gsC_len (gsC_len (fun _ _ _ h => gsN_len h))))))
  (pms_cons (pms_setLc 4 [("one", 5), ("ago", 6)] (pmi_seq (pm_var 2)) (blkOk_by (N := N_singer_text) (sc := defScope s_singer_text) (by decide +kernel)) sc_singer_text.nd (fun _ _ _ _ _ => (pmg_tup (pmgs_cons (pmg_name 5 sc_singer_text.nd) (pmgs_cons (pmg_name 6 sc_singer_text.nd) pmgs_nil)) (gsC_len (gsC_len (fun _ _ _ h => gsN_len h))))) (fun _ _ _ _ _ => pmts_nil) (fun _ _ _ _ _ => (pm_f3 (pm_var 5) (pm_var 6))))
  (pms_one (pms_ret (pm_join pm_str (pm_op op_addD od_add (pm_op op_addD od_add (pm_lst (pma_cons (pm_var 1) pma_nil)) (pm_var 4)) (pm_lst (pma_cons pm_str (pma_cons (pm_join pm_str (pm_lc [("line", 7)] (pmi_seq (pm_var 3)) (blkOk_by (N := N_singer_text) (sc := defScope s_singer_text) (by decide +kernel)) sc_singer_text.nd (fun _ _ _ _ _ => (pmg_name 7 sc_singer_text.nd)) (fun _ _ _ _ _ => pmts_nil) (fun _ _ _ _ _ => (pm_callTy call_str_int cd_str T.z_str (pma_cons (pm_var 7) pma_nil))))) pma_nil)))))))))
abbrev N_choir_text : List Str := ["choir", "singer"]
theorem sc_choir_text : FnScope N_choir_text ["choir"] (defScope s_choir_text) := ⟨rfl, rfl, rfl, by decide +kernel, rfl, by decide +kernel, by decide +kernel⟩
theorem ok_choir_text {P : Program} {w : World} {K : PySem.W.Frag} {mg : Str → Option Value} {base : Heap} (T : Tx K mg) : FnD P w K mg base 7 "choir_text" ["choir"] m_choir_text := by
  obtain ⟨fd, D⟩ := T.f_choir_text
  exact fn_mk D T.g_choir_text sc_choir_text (fun _ _ _ _ _ _ us hl => match us, hl with | [_], _ => rfl) (by decide) fun cdv A outer s H V E hr => (pms_cons (pms_expr (pm_call (ok_need_choir T) (hr.mono (by decide)) tk_fn (pma_cons (pm_var 0) pma_nil)))
  (pms_one (pms_ret (pm_join pm_str (pm_op op_addD od_add (pm_lst (pma_cons (pm_callTy call_str_int cd_str T.z_str (pma_cons (pm_ix ix_seq od_ix (pm_var 0) pm_int) pma_nil)) pma_nil)) (pm_lc [("singer", 1)] (pmi_seq (pm_ix ix_seq od_ix (pm_var 0) pm_int)) (blkOk_by (N := N_choir_text) (sc := defScope s_choir_text) (by decide +kernel)) sc_choir_text.nd (fun _ _ _ _ _ => (pmg_name 1 sc_choir_text.nd)) (fun _ _ _ _ _ => pmts_nil) (fun _ _ _ _ _ => (pm_call (ok_singer_text T) (hr.mono (by decide)) tk_nox (pma_cons (pm_var 1) pma_nil)))))))))
abbrev N_figures_in : List Str := ["text", "sign"]
theorem sc_figures_in : FnScope N_figures_in ["text"] (defScope s_figures_in) := ⟨rfl, rfl, rfl, by decide +kernel, rfl, by decide +kernel, by decide +kernel⟩
theorem ok_figures_in {P : Program} {w : World} {K : PySem.W.Frag} {mg : Str → Option Value} {base : Heap} (T : Tx K mg) : FnD P w K mg base 1 "figures_in" ["text"] m_figures_in := by
  obtain ⟨fd, D⟩ := T.f_figures_in
  exact fn_mk D T.g_figures_in sc_figures_in (fun _ _ _ _ _ _ us hl => match us, hl with | [_], _ => rfl) (by decide) fun cdv A outer s H V E hr => (pms_cons (pms_if (pmt_w (pmw_or (pmt_cmp (op_eqD hr.units) od_eq (pm_var 0) pm_str) (pmw_or1 (pmt_not (pmt_val (pm_callB (cr_all rfl) cd_all T.z_all (pma_cons (pm_lc [("sign", 1)] (pmi_seq (pm_var 0)) (blkOk_by (N := N_figures_in) (sc := defScope s_figures_in) (by decide +kernel)) sc_figures_in.nd (fun _ _ _ _ _ => (pmg_name 1 sc_figures_in.nd)) (fun _ _ _ _ _ => pmts_nil) (fun _ _ _ _ _ => (pm_cmp (op_inAll (u65 hr)) od_in (pm_var 1) (pm_gstr T.c_FIGURES)))) pma_nil))))))) (pms_one (pms_raise T.x_BadText tk_fn)) pms_nil)
  (pms_one (pms_ret (pm_callTy call_tuple_of cd_tuple T.z_tuple (pma_cons (pm_lc [("sign", 1)] (pmi_seq (pm_var 0)) (blkOk_by (N := N_figures_in) (sc := defScope s_figures_in) (by decide +kernel)) sc_figures_in.nd (fun _ _ _ _ _ => (pmg_name 1 sc_figures_in.nd)) (fun _ _ _ _ _ => pmts_nil) (fun _ _ _ _ _ => (pm_callTy call_int_str cd_intS T.z_int (pma_cons (pm_var 1) pma_nil)))) pma_nil)))))
abbrev N_ear_in : List Str := ["word", "parts"]
theorem sc_ear_in : FnScope N_ear_in ["word"] (defScope s_ear_in) := ⟨rfl, rfl, rfl, by decide +kernel, rfl, by decide +kernel, by decide +kernel⟩
theorem ok_ear_in {P : Program} {w : World} {K : PySem.W.Frag} {mg : Str → Option Value} {base : Heap} (T : Tx K mg) : FnD P w K mg base 2 "ear_in" ["word"] m_ear_in := by
  obtain ⟨fd, D⟩ := T.f_ear_in
  exact fn_mk D T.g_ear_in sc_ear_in (fun _ _ _ _ _ _ us hl => match us, hl with | [_], _ => rfl) (by decide) fun cdv A outer s H V E hr => (pms_cons (pms_set 1 (pm_split (pm_var 0) pm_str) sc_ear_in.nd)
  (pms_cons (pms_if (pmt_w (pmw_or (pmt_cmp (op_neD hr.units) od_ne (pm_callB call_len cd_len T.z_len (pma_cons (pm_var 1) pma_nil)) pm_int) (pmw_or1 (pmt_cmp (op_neD hr.units) od_ne (pm_callB call_len cd_len T.z_len (pma_cons (pm_ix ix_seq od_ix (pm_var 1) pm_int) pma_nil)) pm_int)))) (pms_one (pms_raise T.x_BadText tk_fn)) pms_nil)
  (pms_one (pms_ret (pm_tup (pma_cons (pm_ix ix_seq od_ix (pm_var 1) pm_int) (pma_cons (pm_ix ix_seq od_ix (pm_call (ok_figures_in T) (hr.mono (by decide)) tk_fn (pma_cons (pm_ix ix_seq od_ix (pm_var 1) pm_int) pma_nil)) pm_int) pma_nil)))))))
abbrev N_singer_in : List Str := ["row", "words", "word"]
theorem sc_singer_in : FnScope N_singer_in ["row"] (defScope s_singer_in) := ⟨rfl, rfl, rfl, by decide +kernel, rfl, by decide +kernel, by decide +kernel⟩
theorem ok_singer_in {P : Program} {w : World} {K : PySem.W.Frag} {mg : Str → Option Value} {base : Heap} (T : Tx K mg) : FnD P w K mg base 3 "singer_in" ["row"] m_singer_in := by
  obtain ⟨fd, D⟩ := T.f_singer_in
  exact fn_mk D T.g_singer_in sc_singer_in (fun _ _ _ _ _ _ us hl => match us, hl with | [_], _ => rfl) (by decide) fun cdv A outer s H V E hr => (pms_cons (pms_set 1 (pm_split (pm_var 0) pm_str) sc_singer_in.nd)
  (pms_cons (pms_if (pmt_w (pmw_or (pmt_cmp (op_ltAll hr.units0) od_lt (pm_callB call_len cd_len T.z_len (pma_cons (pm_var 1) pma_nil)) pm_int) (pmw_or1 (pmt_cmp (op_neD hr.units) od_ne (pm_ix ix_seq od_ix (pm_var 1) (pm_un un_neg od_neg pm_int)) pm_str)))) (pms_one (pms_raise T.x_BadText tk_fn)) pms_nil)
  (pms_one (pms_ret (pm_tup (pma_cons (pm_ix ix_seq od_ix (pm_var 1) pm_int) (pma_cons (pm_callTy call_tuple_of cd_tuple T.z_tuple (pma_cons (pm_lcX [("word", 2)] tk_fn (pmi_seq (pm_slice (pm_var 1) (pmo_some pm_int) (pmo_some (pm_un un_neg od_neg pm_int)))) (blkOk_by (N := N_singer_in) (sc := defScope s_singer_in) (by decide +kernel)) sc_singer_in.nd (fun _ _ _ _ _ _ => (pmg_name 2 sc_singer_in.nd)) (fun _ _ _ _ _ _ => pmts_nil) (fun _ _ _ _ _ _ => (pm_callP (ok_ear_in T) (hr.mono (by decide)) passP_blk (pma_cons (pm_var 2) pma_nil)))) pma_nil)) (pma_cons (pm_call (ok_figures_in T) (hr.mono (by decide)) tk_fn (pma_cons (pm_ix ix_seq od_ix (pm_var 1) (pm_un un_neg od_neg pm_int)) pma_nil)) pma_nil))))))))
abbrev N_read_choir : List Str := ["text", "rows", "found", "row"]
theorem sc_read_choir : FnScope N_read_choir ["text"] (defScope s_read_choir) := ⟨rfl, rfl, rfl, by decide +kernel, rfl, by decide +kernel, by decide +kernel⟩
theorem ok_read_choir {P : Program} {w : World} {K : PySem.W.Frag} {mg : Str → Option Value} {base : Heap} (T : Tx K mg) : FnD P w K mg base 8 "read_choir" ["text"] m_read_choir := by
  obtain ⟨fd, D⟩ := T.f_read_choir
  exact fn_mk D T.g_read_choir sc_read_choir (fun _ _ _ _ _ _ us hl => match us, hl with | [_], _ => rfl) (by decide) fun cdv A outer s H V E hr => (pms_cons (pms_if (pmt_not (pmt_val (pm_isi .str T.z_isinstance T.z_str (pm_var 0)))) (pms_one (pms_raise T.x_BadText tk_fn)) pms_nil)
  (pms_cons (pms_set 1 (pm_split (pm_var 0) pm_str) sc_read_choir.nd)
  (pms_cons (pms_if (pmt_cmp (op_notInAll (u65 hr)) od_notIn (pm_ix ix_seq od_ix (pm_var 1) pm_int) (pm_tup (pma_cons pm_str (pma_cons pm_str (pma_cons pm_str pma_nil))))) (pms_one (pms_raise T.x_BadText tk_fn)) pms_nil)
  (pms_cons (pms_set 2 (pm_tup (pma_cons (pm_callTy call_int_str cd_intS T.z_int (pma_cons (pm_ix ix_seq od_ix (pm_var 1) pm_int) pma_nil)) (pma_cons (pm_callTy call_tuple_of cd_tuple T.z_tuple (pma_cons (pm_lcX [("row", 3)] tk_fn (pmi_seq (pm_slice (pm_var 1) (pmo_some pm_int) pmo_none)) (blkOk_by (N := N_read_choir) (sc := defScope s_read_choir) (by decide +kernel)) sc_read_choir.nd (fun _ _ _ _ _ _ => (pmg_name 3 sc_read_choir.nd)) (fun _ _ _ _ _ _ => pmts_nil) (fun _ _ _ _ _ _ => (pm_callP (ok_singer_in T) (hr.mono (by decide)) passP_blk (pma_cons (pm_var 3) pma_nil)))) pma_nil)) pma_nil))) sc_read_choir.nd)
  (pms_cons (pms_if (pmt_w (pmw_or (pmt_not (pmt_val (pm_call (ok_is_choir T) (hr.mono (by decide)) tk_fn (pma_cons (pm_var 2) pma_nil)))) (pmw_or1 (pmt_cmp (op_neD hr.units) od_ne (pm_call (ok_choir_text T) (hr.mono (by decide)) tk_fn (pma_cons (pm_var 2) pma_nil)) (pm_var 0))))) (pms_one (pms_raise T.x_BadText tk_fn)) pms_nil)
  (pms_one (pms_ret (pm_var 2))))))))
abbrev N_is_good_wish : List Str := ["choir", "thing", "deep"]
theorem sc_is_good_wish : FnScope N_is_good_wish ["choir", "thing", "deep"] (defScope s_is_good_wish) := ⟨rfl, rfl, rfl, by decide +kernel, rfl, by decide +kernel, by decide +kernel⟩
theorem okr_is_good_wish {P : Program} {w : World} {K : PySem.W.Frag} {mg : Str → Option Value} {base : Heap} (T : Tx K mg) : ∀ k : Nat, FnD P w K mg base (2 + k) "is_good_wish" ["choir", "thing", "deep"] (mk_is_good_wish k)
  | 0 => by
    obtain ⟨fd, D⟩ := T.f_is_good_wish
    exact fn_mk D T.g_is_good_wish sc_is_good_wish (fun _ _ _ _ _ _ us hl => match us, hl with | [_, _, _], _ => rfl) (by decide) fun cdv A outer s H V E hr => HD.pmss_bad
  | k + 1 => by
    have IH := okr_is_good_wish (P := P) (w := w) (base := base) T k
    obtain ⟨fd, D⟩ := T.f_is_good_wish
    exact fn_mk D T.g_is_good_wish sc_is_good_wish (fun _ _ _ _ _ _ us hl => match us, hl with | [_, _, _], _ => rfl) (by decide) fun cdv A outer s H V E hr => (pms_cons (pms_if (pmt_w (pmw_or (pmt_cmp (op_eqD hr.units) od_eq (pm_var 2) pm_int) (pmw_or (pmt_not (pmt_val (pm_isi .tuple T.z_isinstance T.z_tuple (pm_var 1)))) (pmw_or (pmt_cmp (op_eqD hr.units) od_eq (pm_var 1) (pm_tup pma_nil)) (pmw_or1 (pmt_not (pmt_val (pm_isi .str T.z_isinstance T.z_str (pm_ix ix_seq od_ix (pm_var 1) pm_int))))))))) (pms_one (pms_ret pm_bl)) pms_nil)
  (pms_cons (pms_if (pmt_w (pmw_and (pmt_cmp (op_eqD hr.units) od_eq (pm_ix ix_seq od_ix (pm_var 1) pm_int) pm_str) (pmw_and1 (pmt_cmp (op_eqD hr.units) od_eq (pm_callB call_len cd_len T.z_len (pma_cons (pm_var 1) pma_nil)) pm_int)))) (pms_one (pms_ret (pm_and (pm_isi .str T.z_isinstance T.z_str (pm_ix ix_seq od_ix (pm_var 1) pm_int)) (pm_and (pm_cmp (op_inAll (u65 hr)) od_in (pm_ix ix_seq od_ix (pm_var 1) pm_int) (pm_call (ok_all_names T) (hr.mono (Nat.le_trans (by decide : 1 ≤ 2) (Nat.le_add_right 2 k))) tk_fn (pma_cons (pm_var 0) pma_nil))) (pm_one (pm_call (ok_is_whole T) (hr.mono (Nat.le_trans (by decide : 1 ≤ 2) (Nat.le_add_right 2 k))) tk_fn (pma_cons (pm_ix ix_seq od_ix (pm_var 1) pm_int) (pma_cons pm_int (pma_cons (pm_op op_sub od_sub (pm_ix ix_seq od_ix (pm_var 0) pm_int) pm_int) pma_nil))))))))) pms_nil)
  (pms_cons (pms_if (pmt_w (pmw_and (pmt_cmp (op_eqD hr.units) od_eq (pm_ix ix_seq od_ix (pm_var 1) pm_int) pm_str) (pmw_and1 (pmt_cmp (op_eqD hr.units) od_eq (pm_callB call_len cd_len T.z_len (pma_cons (pm_var 1) pma_nil)) pm_int)))) (pms_one (pms_ret (pm_call IH hr tk_fn (pma_cons (pm_var 0) (pma_cons (pm_ix ix_seq od_ix (pm_var 1) pm_int) (pma_cons (pm_op op_sub od_sub (pm_var 2) pm_int) pma_nil)))))) pms_nil)
  (pms_cons (pms_if (pmt_w (pmw_and (pmt_cmp (op_eqD hr.units) od_eq (pm_ix ix_seq od_ix (pm_var 1) pm_int) pm_str) (pmw_and1 (pmt_cmp (op_eqD hr.units) od_eq (pm_callB call_len cd_len T.z_len (pma_cons (pm_var 1) pma_nil)) pm_int)))) (pms_one (pms_ret (pm_and (pm_call IH hr tk_fn (pma_cons (pm_var 0) (pma_cons (pm_ix ix_seq od_ix (pm_var 1) pm_int) (pma_cons (pm_op op_sub od_sub (pm_var 2) pm_int) pma_nil)))) (pm_one (pm_call IH hr tk_fn (pma_cons (pm_var 0) (pma_cons (pm_ix ix_seq od_ix (pm_var 1) pm_int) (pma_cons (pm_op op_sub od_sub (pm_var 2) pm_int) pma_nil)))))))) pms_nil)
  (pms_one (pms_ret (pm_cmp (op_eqD hr.units) od_eq (pm_var 1) (pm_tup (pma_cons pm_str pma_nil)))))))))
theorem ok_is_good_wish {P : Program} {w : World} {K : PySem.W.Frag} {mg : Str → Option Value} {base : Heap} (T : Tx K mg) : FnD P w K mg base 10 "is_good_wish" ["choir", "thing", "deep"] m_is_good_wish := okr_is_good_wish T 8
abbrev N_need_wish : List Str := ["choir", "thing"]
theorem sc_need_wish : FnScope N_need_wish ["choir", "thing"] (defScope s_need_wish) := ⟨rfl, rfl, rfl, by decide +kernel, rfl, by decide +kernel, by decide +kernel⟩
theorem ok_need_wish {P : Program} {w : World} {K : PySem.W.Frag} {mg : Str → Option Value} {base : Heap} (T : Tx K mg) : FnD P w K mg base 11 "need_wish" ["choir", "thing"] m_need_wish := by
  obtain ⟨fd, D⟩ := T.f_need_wish
  exact fn_mk D T.g_need_wish sc_need_wish (fun _ _ _ _ _ _ us hl => match us, hl with | [_, _], _ => rfl) (by decide) fun cdv A outer s H V E hr => (pms_one (pms_if (pmt_not (pmt_val (pm_call (ok_is_good_wish T) (hr.mono (by decide)) tk_fn (pma_cons (pm_var 0) (pma_cons (pm_var 1) (pma_cons (pm_gint T.c_DEEPEST) pma_nil)))))) (pms_one (pms_raise T.x_BadWish tk_fn)) pms_nil))
abbrev N_holds : List Str := ["choir", "lines", "wish"]
theorem sc_holds : FnScope N_holds ["choir", "lines", "wish"] (defScope s_holds) := ⟨rfl, rfl, rfl, by decide +kernel, rfl, by decide +kernel, by decide +kernel⟩
theorem okr_holds {P : Program} {w : World} {K : PySem.W.Frag} {mg : Str → Option Value} {base : Heap} (T : Tx K mg) : ∀ k : Nat, FnD P w K mg base (2 + k) "holds" ["choir", "lines", "wish"] (mk_holds k)
  | 0 => by
    obtain ⟨fd, D⟩ := T.f_holds
    exact fn_mk D T.g_holds sc_holds (fun _ _ _ _ _ _ us hl => match us, hl with | [_, _, _], _ => rfl) (by decide) fun cdv A outer s H V E hr => HD.pmss_bad
  | k + 1 => by
    have IH := okr_holds (P := P) (w := w) (base := base) T k
    obtain ⟨fd, D⟩ := T.f_holds
    exact fn_mk D T.g_holds sc_holds (fun _ _ _ _ _ _ us hl => match us, hl with | [_, _, _], _ => rfl) (by decide) fun cdv A outer s H V E hr => (pms_cons (pms_if (pmt_cmp (op_eqD hr.units) od_eq (pm_ix ix_seq od_ix (pm_var 2) pm_int) pm_str) (pms_one (pms_ret (pm_cmp (op_eqD hr.units) od_eq (pm_ix ix_seq od_ix (pm_var 1) (pm_index (u65 hr) (pm_call (ok_all_names T) (hr.mono (Nat.le_trans (by decide : 1 ≤ 2) (Nat.le_add_right 2 k))) tk_fn (pma_cons (pm_var 0) pma_nil)) (pma_cons (pm_ix ix_seq od_ix (pm_var 2) pm_int) pma_nil))) (pm_ix ix_seq od_ix (pm_var 2) pm_int)))) pms_nil)
  (pms_cons (pms_if (pmt_cmp (op_eqD hr.units) od_eq (pm_ix ix_seq od_ix (pm_var 2) pm_int) pm_str) (pms_one (pms_ret (pm_not (pm_call IH hr tk_fn (pma_cons (pm_var 0) (pma_cons (pm_var 1) (pma_cons (pm_ix ix_seq od_ix (pm_var 2) pm_int) pma_nil))))))) pms_nil)
  (pms_cons (pms_if (pmt_cmp (op_eqD hr.units) od_eq (pm_ix ix_seq od_ix (pm_var 2) pm_int) pm_str) (pms_one (pms_ret (pm_and (pm_call IH hr tk_fn (pma_cons (pm_var 0) (pma_cons (pm_var 1) (pma_cons (pm_ix ix_seq od_ix (pm_var 2) pm_int) pma_nil)))) (pm_one (pm_call IH hr tk_fn (pma_cons (pm_var 0) (pma_cons (pm_var 1) (pma_cons (pm_ix ix_seq od_ix (pm_var 2) pm_int) pma_nil)))))))) pms_nil)
  (pms_one (pms_ret (pm_cmp (op_eqD hr.units) od_eq (pm_setLen T.z_len T.z_set (pm_var 1)) pm_int))))))
theorem ok_holds {P : Program} {w : World} {K : PySem.W.Frag} {mg : Str → Option Value} {base : Heap} (T : Tx K mg) : FnD P w K mg base 10 "holds" ["choir", "lines", "wish"] m_holds := okr_holds T 8
abbrev N_granted : List Str := ["choir", "lines", "wish"]
theorem sc_granted : FnScope N_granted ["choir", "lines", "wish"] (defScope s_granted) := ⟨rfl, rfl, rfl, by decide +kernel, rfl, by decide +kernel, by decide +kernel⟩
theorem ok_granted {P : Program} {w : World} {K : PySem.W.Frag} {mg : Str → Option Value} {base : Heap} (T : Tx K mg) : FnD P w K mg base 12 "granted" ["choir", "lines", "wish"] m_granted := by
  obtain ⟨fd, D⟩ := T.f_granted
  exact fn_mk D T.g_granted sc_granted (fun _ _ _ _ _ _ us hl => match us, hl with | [_, _, _], _ => rfl) (by decide) fun cdv A outer s H V E hr => (pms_cons (pms_expr (pm_call (ok_need_choir T) (hr.mono (by decide)) tk_fn (pma_cons (pm_var 0) pma_nil)))
  (pms_cons (pms_if (pmt_not (pmt_val (pm_call (ok_are_lines T) (hr.mono (by decide)) tk_fn (pma_cons (pm_var 1) (pma_cons (pm_callB call_len cd_len T.z_len (pma_cons (pm_ix ix_seq od_ix (pm_var 0) pm_int) pma_nil)) (pma_cons (pm_ix ix_seq od_ix (pm_var 0) pm_int) pma_nil)))))) (pms_one (pms_raise T.x_BadRows tk_fn)) pms_nil)
  (pms_cons (pms_expr (pm_call (ok_need_wish T) (hr.mono (by decide)) tk_fn (pma_cons (pm_var 0) (pma_cons (pm_var 2) pma_nil))))
  (pms_one (pms_ret (pm_call (ok_holds T) (hr.mono (by decide)) tk_fn (pma_cons (pm_var 0) (pma_cons (pm_var 1) (pma_cons (pm_var 2) pma_nil)))))))))
abbrev N_law_drawn : List Str := ["cell", "k", "more"]
theorem sc_law_drawn : FnScope N_law_drawn ["cell", "k"] (defScope s_law_drawn) := ⟨rfl, rfl, rfl, by decide +kernel, rfl, by decide +kernel, by decide +kernel⟩
theorem ok_law_drawn {P : Program} {w : World} {K : PySem.W.Frag} {mg : Str → Option Value} {base : Heap} (T : Tx K mg) : FnD P w K mg base 1 "_law_drawn" ["cell", "k"] m_law_drawn := by
  obtain ⟨fd, D⟩ := T.f_law_drawn
  exact fn_mk D T.g_law_drawn sc_law_drawn (fun _ _ _ _ _ _ us hl => match us, hl with | [_, _], _ => rfl) (by decide) fun cdv A outer s H V E hr => (pms_cons (pms_set 2 (pm_op op_mod od_mod (pm_op op_addD od_add (pm_op op_mulD od_mul (pm_var 0) pm_int) (pm_op op_mulD od_mul (pm_op op_addD od_add (pm_var 1) pm_int) pm_int)) pm_int) sc_law_drawn.nd)
  (pms_cons (pms_set 2 (pm_op op_mod od_mod (pm_op op_mulD od_mul (pm_var 2) (pm_var 2)) pm_int) sc_law_drawn.nd)
  (pms_cons (pms_set 2 (pm_op op_mulD od_mul (pm_op op_mulD od_mul (pm_op op_addD od_add (pm_op op_mod od_mod (pm_var 2) pm_int) pm_int) (pm_op op_addD od_add (pm_op op_fdivW od_div (pm_var 2) pm_int) pm_int)) (pm_var 2)) sc_law_drawn.nd)
  (pms_one (pms_ret (pm_op op_mod od_mod (pm_var 2) pm_int))))))
abbrev N_law_roll : List Str := ["dice", "many", "told"]
theorem sc_law_roll : FnScope N_law_roll ["dice", "many"] (defScope s_law_roll) := ⟨rfl, rfl, rfl, by decide +kernel, rfl, by decide +kernel, by decide +kernel⟩
theorem ok_law_roll {P : Program} {w : World} {K : PySem.W.Frag} {mg : Str → Option Value} {base : Heap} (T : Tx K mg) : FnL P w K mg base 2 "_law_roll" ["dice", "many"] m_law_roll := by
  obtain ⟨fd, D⟩ := T.f_law_roll
  exact fn_mkL D T.g_law_roll sc_law_roll (fun _ _ _ _ _ _ us hl => match us, hl with | [_, _], _ => rfl) (by decide) (by decide) fun cdv A outer s H V a E hr => (pms_cons (pms_if (pmt_cmp op_ge od_ge (pm_ixO 0 pm_int) (pm_op op_pow od_pow pm_int pm_int)) (pms_cons (pms_set 2 (pm_op op_mod od_mod (pm_ixO 0 pm_int) (pm_var 1)) sc_law_roll.nd)
  (pms_cons (pms_six 0 (pm_op op_fdivW od_div (pm_ixO 0 pm_int) (pm_var 1)) pm_int)
  (pms_one (pms_ret (pm_var 2))))) pms_nil)
  (pms_cons (pms_six 0 (pm_op op_addD od_add (pm_ixO 0 pm_int) pm_int) pm_int)
  (pms_one (pms_ret (pm_op op_mod od_mod (pm_op op_fdivW od_div (pm_call (ok_law_drawn T) (hr.mono (by decide)) tk_fn (pma_cons (pm_ixO 0 pm_int) (pma_cons (pm_ixO 0 pm_int) pma_nil))) pm_int) (pm_var 1))))))
abbrev N_law_alone : List Str := ["e", "own", "some", "at"]
theorem sc_law_alone : FnScope N_law_alone ["e", "own"] (defScope s_law_alone) := ⟨rfl, rfl, rfl, by decide +kernel, rfl, by decide +kernel, by decide +kernel⟩
theorem ok_law_alone {P : Program} {w : World} {K : PySem.W.Frag} {mg : Str → Option Value} {base : Heap} (T : Tx K mg) (EX : HD.ExcT K) (CK : HD.ClK K) : ∃ fd, FnOk P w K mg base (L2N.CX P w) 1 (He.ga K "_law_alone") fd ["e", "own"] (HD.spAlone ⟨K, w⟩) ∧ Binds K fd ["e", "own"] [] ∧ PySem.W.keepIn K (.ref (He.ga K "_law_alone")) = true := by
  obtain ⟨fd, D⟩ := T.f_law_alone
  obtain ⟨h1, h2⟩ := HD.alone_mk (P := P) (w := w) (mg := mg) (base := base) (k := 0) (b := ba_law_alone) D sc_law_alone rfl (fun _ _ _ _ _ _ us hl => match us, hl with | [_, _], _ => rfl) (fun c d a cdv A outer s H V E hc h0 hd hr => (pms_cons (pms_set 2 (pm_lst (pma_cons (HD.pm_isT (HD.ecA EX CK c hc) h0 hd rfl T.z_isinstance T.x_BadChoir.g (HD.kA EX CK c hc "BadChoir" (by decide))) (pma_cons (HD.pm_isT (HD.ecA EX CK c hc) h0 hd rfl T.z_isinstance T.x_BadName.g (HD.kA EX CK c hc "BadName" (by decide))) (pma_cons (HD.pm_isT (HD.ecA EX CK c hc) h0 hd rfl T.z_isinstance T.x_BadStanding.g (HD.kA EX CK c hc "BadStanding" (by decide))) pma_nil)))) sc_law_alone.nd)
  (pms_cons (pms_set 2 (pm_op op_addD od_add (pm_var 2) (pm_lst (pma_cons (HD.pm_isT (HD.ecA EX CK c hc) h0 hd rfl T.z_isinstance T.x_BadNumber.g (HD.kA EX CK c hc "BadNumber" (by decide))) pma_nil))) sc_law_alone.nd)
  (pms_cons (pms_set 2 (pm_op op_addD od_add (pm_var 2) (pm_lst (pma_cons (HD.pm_isT (HD.ecA EX CK c hc) h0 hd rfl T.z_isinstance T.x_BadRows.g (HD.kA EX CK c hc "BadRows" (by decide))) (pma_cons (HD.pm_isT (HD.ecA EX CK c hc) h0 hd rfl T.z_isinstance T.x_BadLead.g (HD.kA EX CK c hc "BadLead" (by decide))) (pma_cons (HD.pm_isT (HD.ecA EX CK c hc) h0 hd rfl T.z_isinstance T.x_BadWish.g (HD.kA EX CK c hc "BadWish" (by decide))) pma_nil))))) sc_law_alone.nd)
  (pms_cons (pms_set 2 (pm_op op_addD od_add (pm_var 2) (pm_lst (pma_cons (HD.pm_isT (HD.ecA EX CK c hc) h0 hd rfl T.z_isinstance T.k_Clash (HD.kA EX CK c hc "Clash" (by decide))) (pma_cons (HD.pm_isT (HD.ecA EX CK c hc) h0 hd rfl T.z_isinstance T.x_Nothing.g (HD.kA EX CK c hc "Nothing" (by decide))) (pma_cons (HD.pm_isT (HD.ecA EX CK c hc) h0 hd rfl T.z_isinstance T.x_BadText.g (HD.kA EX CK c hc "BadText" (by decide))) pma_nil))))) sc_law_alone.nd)
  (pms_one (pms_ret (pm_and (HD.pm_isTB (c := "ValueError") (t := "") (HD.ecA EX CK c hc) h0 hd rfl T.z_isinstance T.z_ValueError (by decide +kernel) (HD.vA EX CK c hc)) (pm_one (pm_cmp (op_eqD hr.units) od_eq (pm_var 2) (pm_lc [("at", 3)] (pmi_range1 T.z_range (pma_cons pm_int pma_nil)) (blkOk_by (N := N_law_alone) (sc := defScope s_law_alone) (by decide +kernel)) sc_law_alone.nd (fun _ _ _ _ _ => (pmg_name 3 sc_law_alone.nd)) (fun _ _ _ _ _ => pmts_nil) (fun _ _ _ _ _ => (pm_cmp (op_eqD hr.units) od_eq (pm_var 3) (pm_var 1)))))))))))))) v_law_alone
  exact ⟨fd, h1, h2, D.kp⟩
theorem pe_alone_law {X : Cx} {p1 p2 p3 p4 : Pos} {ja je : Nat} (T : Tx X.K X.mg) (EX : HD.ExcT X.K) (CK : HD.ClK X.K) (hr : Room 1 X.A) (hg : Gl X "_law_alone") (h1 : X.N[je]? = some ("e" : Str)) (h2 : X.N[ja]? = some ("at" : Str)) (v1 : Vis X.env.scope "e") (v2 : Vis X.env.scope "at") :
    PE X (.Call (.Name "_law_alone" p1) [.Name "e" p2, .Name "at" p3] [] p4) (tCallS (HD.spAlone X.kw) (fun _ _ _ _ => False) (tCons (tVar je) (tCons (tVar ja) tNil))) := by
  obtain ⟨fd, G1, G2, G3⟩ := ok_law_alone (P := X.prog) (w := X.w) (base := X.base) T EX CK
  exact pe_callS (E := fun _ _ _ _ => False) G1 hr hg T.g_law_alone G3 G2 (fun σ => L2N.passAt takesN0 σ) (pa_cons (pe_var h1 v1 (by decide) (by decide)) (pa_cons (pe_var h2 v2 (by decide) (by decide)) pa_nil))
theorem sc_law_met : FnScope ["deed", "e"] ["deed"] (defScope s_law_met) := ⟨rfl, rfl, rfl, by decide +kernel, rfl, by decide +kernel, by decide +kernel⟩
theorem pe_met_law {X : Cx} {F : Fr} {x : Str} {params : Arguments} {body : Expr} {scope : Scope} {fb : M PyData} {k : Nat} {c Pt : Addr} {p lpos pos : Pos} (T : Tx X.K X.mg)
    (LA : HD.LamAt X.K X.mg X.base x X.env.code c Pt) (hq : X.env.qual = x ++ ".<locals>.") (hr : Room (k + 2) X.A) (L : LamX.LamS X.env.scope scope)
    (hb : ∀ (A : Around) (outer : List Env) (s : Shared) (H : Hp) (E : XK) (f c' : Addr) (H' V : Hp), Room k (A.deeper (LamX.lamEnv X scope s.heap.objs.size f c')) → PM (HD.lamN X A outer s H E scope f c') (mkF H' V E) body fb)
    (hg : Gl X "_law_met" := by rfl) (hdef : defaultsOf params X.env = ([], []) := by rfl)
    (hbind : ∀ (q : Str) (cl : List (Str × Addr)) (pm cv ctv : Value), bindArgs (PySem.W.kla_fn "<lambda>" q params body scope cl pm cv ctv) ⟨[], []⟩ = pure [] := by intros; rfl) :
    PE X (.Call (.Name "_law_met" p) [.Lambda params body scope lpos] [] pos) (HD.tMet X.kw fb F) := by
  obtain ⟨fdt, D⟩ := T.f_law_met
  exact HD.pe_met D T.g_law_met (fun _ _ _ _ _ _ us hl => match us, hl with | [_], _ => rfl) sc_law_met (Or.inl rfl) (fun cdv => HD.met_N rfl rfl T.x_SongError.g (fun _ => pe_non)) LA hq hr L hb hg hdef hbind
theorem pe_metX_law {X : Cx} {F : Fr} {x z : Str} {params : Arguments} {e : Expr} {es : List Expr} {scope : Scope} {fs : M (List PyData)} {lvl k : Nat} {ps : List Str} {m : List PyData → HD.RX} {c Pt : Addr} {p lpos pos p1 p2 : Pos} (T : Tx X.K X.mg) (Gz : HD.FnX X.prog X.w X.K X.mg X.base lvl z ps m) (hle : lvl ≤ k)
    (LA : HD.LamAt X.K X.mg X.base x X.env.code c Pt) (hq : X.env.qual = x ++ ".<locals>.") (hr : Room (k + 2) X.A) (L : LamX.LamS X.env.scope scope)
    (hb : ∀ (A : Around) (outer : List Env) (s : Shared) (H : Hp) (E : XK) (f c' : Addr) (H' V : Hp), Room k (A.deeper (LamX.lamEnv X scope s.heap.objs.size f c')) → PMA (HD.lamN X A outer s H E scope f c') (mkF H' V E) (e :: es) fs)
    (hgz : ∀ (A : Around) (outer : List Env) (s : Shared) (H : Hp) (E : XK) (f c' : Addr), Gl (HD.lamN X A outer s H E scope f c') z := by intros; rfl)
    (hdz : (z == ("__debug__" : Str)) = false := by decide) (hez : ∀ (A : Around) (outer : List Env) (s : Shared) (H : Hp) (E : XK) (f c' : Addr), starEach (e :: es) (HD.lamN X A outer s H E scope f c').env = (false, eval e (HD.lamN X A outer s H E scope f c').env) :: starEach es (HD.lamN X A outer s H E scope f c').env := by intros; rfl)
    (hplz : ∀ (A : Around) (outer : List Env) (s : Shared) (H : Hp) (E : XK) (f c' : Addr), (backTo p2 (starEach es (HD.lamN X A outer s H E scope f c').env)).any (·.1) = false := by intros; rfl)
    (hg : Gl X "_law_met" := by rfl) (hdef : defaultsOf params X.env = ([], []) := by rfl)
    (hbind : ∀ (q : Str) (cl : List (Str × Addr)) (pm cv ctv : Value), bindArgs (PySem.W.kla_fn "<lambda>" q params (.Call (.Name z p1) (e :: es) [] p2) scope cl pm cv ctv) ⟨[], []⟩ = pure [] := by intros; rfl) :
    PE X (.Call (.Name "_law_met" p) [.Lambda params (.Call (.Name z p1) (e :: es) [] p2) scope lpos] [] pos) (HD.tMetX X.kw m fs F) := by
  obtain ⟨fdt, D⟩ := T.f_law_met
  exact HD.pe_metX Gz D T.g_law_met (fun _ _ _ _ _ _ us hl => match us, hl with | [_], _ => rfl) sc_law_met (Or.inl rfl) (fun cdv => HD.met_N rfl rfl T.x_SongError.g (fun _ => pe_non)) LA hq hr hle L hb hgz hdz hez hplz hg hdef hbind
abbrev N_law_cell : List Str := ["script", "k"]
theorem sc_law_cell : FnScope N_law_cell ["script", "k"] (defScope s_law_cell) := ⟨rfl, rfl, rfl, by decide +kernel, rfl, by decide +kernel, by decide +kernel⟩
theorem ok_law_cell {P : Program} {w : World} {K : PySem.W.Frag} {mg : Str → Option Value} {base : Heap} (T : Tx K mg) : ∃ fd, FnOk P w K mg base (L2N.CX P w) 1 (He.ga K "_law_cell") fd ["script", "k"] (DL.spCell ⟨K, w⟩) ∧ Binds K fd ["script", "k"] [] ∧ PySem.W.keepIn K (.ref (He.ga K "_law_cell")) = true := by
  obtain ⟨fd, D⟩ := T.f_law_cell
  refine ⟨fd, D.ok (CX := L2N.CX P w) sc_law_cell (fun vs H Q E h => ?_) (fun cdv A outer s H vs Q E hr h => ⟨DL.t_cell ⟨K, w⟩, ?_, DL.pure_cell vs H Q E h⟩), D.bindsN (fun _ _ _ _ _ _ us hl => match us, hl with | [_, _], _ => rfl), D.kp⟩
  · obtain ⟨a, ns, k, rfl, _⟩ := h
    rfl
  · exact pss_cons (ps_if (pt_cmpR (op_eqD hr.units) (pv 0) (pe_lst pa_nil) (nomark _)) (pss_one (ps_ret (pe_op op_mul (pv 1) pe_int))) pss_nil)
      (pss_one (ps_ret (pe_op op_add (pe_ix ix_list (pv 0) (pe_op op_mod (pv 1) (pe_callB call_len rfl T.z_len (by decide +kernel) (pa_cons (pv 0) pa_nil))) (fun _ _ => rfl)) (pe_op op_mul (pe_op op_fdivW (pv 1) (pe_callB call_len rfl T.z_len (by decide +kernel) (pa_cons (pv 0) pa_nil))) pe_int))))
abbrev N_law_rounds : List Str := ["script", "high", "k"]
theorem sc_law_rounds : FnScope N_law_rounds ["script", "high"] (defScope s_law_rounds) := ⟨rfl, rfl, rfl, by decide +kernel, rfl, by decide +kernel, by decide +kernel⟩
theorem ok_law_rounds {P : Program} {w : World} {K : PySem.W.Frag} {mg : Str → Option Value} {base : Heap} (T : Tx K mg) : ∃ fd, FnOk P w K mg base (L2N.CX P w) 2 (He.ga K "_law_rounds") fd ["script", "high"] (DL.spRounds ⟨K, w⟩) ∧ Binds K fd ["script", "high"] [] ∧ PySem.W.keepIn K (.ref (He.ga K "_law_rounds")) = true := by
  obtain ⟨fd, D⟩ := T.f_law_rounds
  refine ⟨fd, D.ok (CX := L2N.CX P w) sc_law_rounds (fun vs H Q E h => ?_) (fun cdv A outer s H vs Q E hr h => ⟨DL.t_rounds ⟨K, w⟩ E, ?_, DL.pure_rounds vs H Q E h⟩), D.bindsN (fun _ _ _ _ _ _ us hl => match us, hl with | [_, _], _ => rfl), D.kp⟩
  · obtain ⟨a, ns, k, rfl, _⟩ := h
    rfl
  · obtain ⟨fc, G1, G2, G3⟩ := ok_law_cell (P := P) (w := w) (base := base) T
    exact pss_one (ps_ret (pe_lc (own := [("k", 2)]) rfl sc_law_rounds.nd
      (pi_range1 rfl T.z_range (pa_cons (pe_callB (call_max2 rfl) rfl T.z_max (by decide +kernel) (pa_cons pe_int (pa_cons (pe_callB (call_min2 rfl) rfl T.z_min (by decide +kernel) (pa_cons (pv 1) (pa_cons (pe_callB call_len rfl T.z_len (by decide +kernel) (pa_cons (pv 0) pa_nil)) pa_nil))) pa_nil))) pa_nil))
      (blkOk_by (N := N_law_rounds) (sc := defScope s_law_rounds) (by decide +kernel)) (fun _ _ _ _ _ => pg_name (i := 2) sc_law_rounds.nd rfl (Or.inl rfl)) (fun _ _ _ _ _ => pts_nil)
      (fun _ _ _ _ _ => pe_lst (pa_cons (pe_callS (k := 1) (E := fun _ _ _ _ => False) G1 (hr.mono (by decide)) rfl T.g_law_cell G3 G2 (fun σ => L2N.passAt takesN0 σ) (pa_cons (pv 0) (pa_cons (pv 2) pa_nil))) (pa_cons pe_int pa_nil)))))
abbrev N_law : List Str := ["script", "dice", "more", "choir", "still", "made", "at", "e"]
theorem sc_law : FnScope N_law ["script"] (defScope s_law) := ⟨rfl, rfl, rfl, by decide +kernel, rfl, by decide +kernel, by decide +kernel⟩
theorem ok_law {P : Program} {w : World} {K : PySem.W.Frag} {mg : Str → Option Value} (T : Tx K mg) (EX : HD.ExcT K) (CK : HD.ClK K) (hb : ∀ c : Int, ∃ ρ', b_law (init law_n law_di c) = .nx ρ' ∧ ρ'.length = law_n) : ∃ fd, (∀ base : Heap, HD.LamKs K mg base lams → FnOk P w K mg base (L2N.CX P w) 15 (He.ga K "law") fd ["script"] (DL.spLaw ⟨K, w⟩)) ∧ ∀ (s : Shared) (v : Value), BindsTo s fd ⟨[v], []⟩ [("script", v)] := by
  obtain ⟨fd, D⟩ := T.f_law
  have hbb := fun s v => FunD.bindsA (ps := ["script"]) D (fun _ _ _ _ _ _ us hl => match us, hl with | [_], _ => rfl) s [v] rfl
  obtain ⟨oc, od, dV, kV, doc, pm, an, cdv, ct, osl, rfl, lk, hcd, _, _⟩ := D.ex
  refine ⟨_, fun base LM => fn_of (CX := L2N.CX P w) lk hcd sc_law (fun vs H Q E h => ?_) (fun A outer s H vs Q E hr h => ⟨DL.t_law ⟨K, w⟩ 4 1 b_law, ?_, DL.pure_law (N := N_law) (by decide) (by decide) (by decide) hb vs H Q E h (fun _ => rfl) (fun _ => rfl)⟩), hbb⟩
  · obtain ⟨_, a, ns, rfl, _⟩ := h
    rfl
  · obtain ⟨c, Pt, LA⟩ := LM "law" (by decide) _ _ _ _ lk
    obtain ⟨fr, G1, G2, G3⟩ := ok_law_rounds (P := P) (w := w) (base := base) T
    exact pss_cons (ps_for (passes_of rfl) rfl (pi_list (pe_callS (k := 2) (E := fun _ _ _ _ => False) G1 (hr.mono (by decide)) rfl T.g_law_rounds G3 G2 (fun σ => L2N.passAt takesN0 σ) (pa_cons (pv 0) (pa_cons pe_int pa_nil)))) (pg_name (i := 1) sc_law.nd rfl (by first | exact Or.inl rfl | exact Or.inr rfl))
      (pss_body fun H a => (pms_cons (pms_asg (pm_tup (pma_cons (pm_op op_addD od_add pm_int (pm_callL 1 (ok_law_roll T) (hr.mono (by decide)) tk_z (pma_cons pm_int pma_nil))) (pma_cons (pm_tup (pma_cons pm_int (pma_cons (pm_tup (pma_cons (pm_tup (pma_cons pm_str (pma_cons (pm_tup pma_nil) (pma_cons (pm_tup (pma_cons pm_int pma_nil)) pma_nil)))) pma_nil)) pma_nil))) pma_nil))) (pmg_tup (pmgs_cons (pmg_name 2 sc_law.nd) (pmgs_cons (pmg_name 3 sc_law.nd) pmgs_nil)) (gsC_len (gsC_len (fun _ _ _ h => gsN_len h)))))
  (pms_cons (pms_set 4 (pm_tup (pma_cons (pm_tup (pma_cons pm_int (pma_cons pm_int (pma_cons pm_int pma_nil)))) pma_nil)) sc_law.nd)
  (HD.pss_mets 5 (HD.tEx_of EX (pe_met_law (k := 7) T LA rfl (hr.mono (by decide)) (LamX.lamS_by (sc := defScope s_law) (by decide +kernel)) (fun A outer s H E f c' H' V hr => (pm_call (ok_names T) (hr.mono (by decide)) HD.tk_lam (pma_cons (pm_tup (pma_cons (pm_op op_addD od_add pm_int (pm_var 2)) (pma_cons (pm_ix ix_seq od_ix (pm_var 3) pm_int) pma_nil))) pma_nil))))) (by show (9 : Nat) ≤ 49; decide) (HD.pss_metA 5 (HD.tEx_of EX (pe_met_law (k := 7) T LA rfl (hr.mono (by decide)) (LamX.lamS_by (sc := defScope s_law) (by decide +kernel)) (fun A outer s H E f c' H' V hr => (pm_call (ok_counting T) (hr.mono (by decide)) HD.tk_lam (pma_cons (pm_var 3) (pma_cons (pm_op op_mulT od_mulT pm_str (pm_var 2)) pma_nil))))))
  (HD.pss_metA 5 (HD.tEx_of EX (pe_met_law (k := 8) T LA rfl (hr.mono (by decide)) (LamX.lamS_by (sc := defScope s_law) (by decide +kernel)) (fun A outer s H E f c' H' V hr => (pm_call (ok_round_of T) (hr.mono (by decide)) HD.tk_lam (pma_cons (pm_var 3) (pma_cons (pm_op op_mulD od_mul (pm_var 4) (pm_op op_addD od_add pm_int (pm_var 2))) pma_nil))))))
  (HD.pss_metA 5 (HD.tEx_of EX (pe_met_law (k := 8) T LA rfl (hr.mono (by decide)) (LamX.lamS_by (sc := defScope s_law) (by decide +kernel)) (fun A outer s H E f c' H' V hr => (pm_call (ok_song T) (hr.mono (by decide)) HD.tk_lam (pma_cons (pm_var 3) (pma_cons (pm_var 4) (pma_cons (pm_op op_addD od_add pm_int (pm_var 2)) pma_nil)))))))
  (HD.pss_metA 5 (HD.tEx_of EX (pe_met_law (k := 8) T LA rfl (hr.mono (by decide)) (LamX.lamS_by (sc := defScope s_law) (by decide +kernel)) (fun A outer s H E f c' H' V hr => (pm_call (ok_fits T) (hr.mono (by decide)) HD.tk_lam (pma_cons (pm_var 3) (pma_cons (pm_op op_mulD od_mul (pm_lst (pma_cons (pm_tup (pma_cons pm_int pma_nil)) pma_nil)) (pm_op op_addD od_add pm_int (pm_var 2))) pma_nil))))))
  (HD.pss_metA 5 (HD.tEx_of EX (pe_met_law (k := 8) T LA rfl (hr.mono (by decide)) (LamX.lamS_by (sc := defScope s_law) (by decide +kernel)) (fun A outer s H E f c' H' V hr => (pm_call (ok_led_song T) (hr.mono (by decide)) HD.tk_lam (pma_cons (pm_var 3) (pma_cons (pm_var 4) (pma_cons (pm_d1 hr.units (pm_tup (pma_cons (pm_op op_addD od_add pm_int (pm_var 2)) (pma_cons pm_str pma_nil))) pm_int) (pma_cons pm_int pma_nil))))))))
  (HD.pss_metA 5 (HD.tEx_of EX (pe_met_law (k := 12) T LA rfl (hr.mono (by decide)) (LamX.lamS_by (sc := defScope s_law) (by decide +kernel)) (fun A outer s H E f c' H' V hr => (pm_call (ok_granted T) (hr.mono (by decide)) HD.tk_lam (pma_cons (pm_var 3) (pma_cons (pm_tup (pma_cons pm_int pma_nil)) (pma_cons (pm_tup (pma_cons pm_str (pma_cons pm_str (pma_cons (pm_op op_addD od_add pm_int (pm_var 2)) pma_nil)))) pma_nil)))))))
  (HD.pss_metA 5 (HD.tEx_ofX CK (pe_metX_law (k := 8) T (okx_tables T CK) (by decide) LA rfl (hr.mono (by decide)) (LamX.lamS_by (sc := defScope s_law) (by decide +kernel)) (fun A outer s H E f c' H' V hr => (pma_cons (pm_var 3) (pma_cons (pm_op op_addD od_add (pm_op op_mulD od_mul (pm_lst (pma_cons (pm_tup (pma_cons pm_int pma_nil)) pma_nil)) (pm_op op_addD od_add pm_int (pm_var 2))) (pm_lst (pma_cons (pm_tup (pma_cons pm_int pma_nil)) pma_nil))) (pma_cons pm_str pma_nil))))))
  (HD.pss_metA 5 (HD.tEx_of EX (pe_met_law (k := 7) T LA rfl (hr.mono (by decide)) (LamX.lamS_by (sc := defScope s_law) (by decide +kernel)) (fun A outer s H E f c' H' V hr => (pm_call (ok_must_begin T) (hr.mono (by decide)) HD.tk_lam (pma_cons (pm_var 3) (pma_cons (pm_lst (pma_cons (pm_tup (pma_cons pm_int pma_nil)) pma_nil)) pma_nil))))))
  (HD.pss_metA 5 (HD.tEx_of EX (pe_met_law (k := 8) T LA rfl (hr.mono (by decide)) (LamX.lamS_by (sc := defScope s_law) (by decide +kernel)) (fun A outer s H E f c' H' V hr => (pm_call (ok_read_choir T) (hr.mono (by decide)) HD.tk_lam (pma_cons (pm_op op_mulT od_mulT pm_str (pm_var 2)) pma_nil)))))
  (HD.pss_look 5 (fun G_ cs_ dat_ lk_ h1_ h7_ => (pmt_w (pmw_or (pmt_not (pmt_val (pm_callB (cr_all rfl) cd_all T.z_all (pma_cons (HD.pm_alones 5 6 7 lk_ h1_ rfl sc_law.nd rfl (by first | exact Or.inl rfl | exact Or.inr (Or.inl rfl) | exact Or.inr (Or.inr rfl)) (by decide) (by decide) T.z_enumerate rfl (blkOk_by (N := N_law) (sc := defScope s_law) (by decide +kernel)) (by decide) (fun _ _ _ _ _ => pg_tup rfl (pgs_cons (pg_name sc_law.nd rfl (Or.inl rfl)) (pgs_cons (pg_name sc_law.nd rfl (Or.inl rfl)) pgs_nil))) (fun _ _ _ _ _ => pe_alone_law T EX CK (hr.mono (by decide)) rfl rfl rfl (Or.inl rfl) (Or.inl rfl))) pma_nil)))) (pmw_or1 (pmt_cmp (op_neD hr.units) od_ne (HD.pm_beats 5 CK lk_ h7_ rfl (by first | exact Or.inl rfl | exact Or.inr (Or.inl rfl) | exact Or.inr (Or.inr rfl)) (by decide) (by decide)) (pm_tup (pma_cons pm_int (pma_cons (pm_op op_addD od_add pm_int (pm_var 2)) pma_nil)))))))))))))))))) sc_law.nd))))) (pss_one (ps_ret pe_bl))
end G
set_option Elab.async false
set_option linter.all false
set_option maxRecDepth 100000
set_option maxHeartbeats 1000000
namespace G
open PySem DL
local instance : DL.TabCtx := ⟨[]⟩
inductive P : Nat → PyData → Prop
  | none {k} : P k .none
  | int {k} (i : Int) : P k (.int i)
  | str {k} {s : Str} (h : (PyData.str s).canLay0 = true) : P k (.str s)
  | tuple {k} {xs : List PyData} (h : ∀ x ∈ xs, P k x) : P (k + 1) (.tuple xs)
  | list {k} {xs : List PyData} (h : ∀ x ∈ xs, P k x) : P (k + 1) (.list xs)
theorem P.mono {j : Nat} {d : PyData} (h : P j d) : ∀ {k : Nat}, j ≤ k → P k d := by
  induction h with
  | none => exact fun _ => .none
  | int i => exact fun _ => .int i
  | str h => exact fun _ => .str h
  | tuple _ ih => intro k hk; cases k with
    | zero => omega
    | succ k => exact .tuple fun x hx => ih x hx (by omega)
  | list _ ih => intro k hk; cases k with
    | zero => omega
    | succ k => exact .list fun x hx => ih x hx (by omega)
theorem lay_all : ∀ {xs : List PyData}, (∀ x ∈ xs, x.canLay0 = true) → PyData.canLayAll0 xs = true
  | [], _ => rfl
  | x :: xs, h => by
    show (PyData.canLay0 x && PyData.canLayAll0 xs) = true
    rw [h x (List.mem_cons_self ..), lay_all fun y hy => h y (List.mem_cons_of_mem _ hy)]
    rfl
theorem depth_all {k : Nat} : ∀ {xs : List PyData}, (∀ x ∈ xs, x.depth ≤ k) → PyData.depthAll xs ≤ k
  | [], _ => by simp [PyData.depthAll]
  | x :: xs, h => by
    have h1 := h x (List.mem_cons_self ..)
    have h2 := depth_all fun y hy => h y (List.mem_cons_of_mem _ hy)
    simp only [PyData.depthAll]
    omega
theorem P.lay {k : Nat} {d : PyData} (h : P k d) : d.canLay0 = true ∧ d.depth ≤ k := by
  induction h with
  | none => exact ⟨by rw [PyData.canLay0], by rw [PyData.depth]; omega⟩
  | int i => exact ⟨by rw [PyData.canLay0], by rw [PyData.depth]; omega⟩
  | str h => exact ⟨h, by rw [PyData.depth]; omega⟩
  | tuple _ ih => exact ⟨by rw [PyData.canLay0]; exact lay_all fun x hx => (ih x hx).1, by rw [PyData.depth]; have := depth_all fun x hx => (ih x hx).2; omega⟩
  | list _ ih => exact ⟨by rw [PyData.canLay0]; exact lay_all fun x hx => (ih x hx).1, by rw [PyData.depth]; have := depth_all fun x hx => (ih x hx).2; omega⟩
theorem P.shaped {k : Nat} {d : PyData} (h : P k d) (hk : k ≤ 64) : SeqAt.shaped d = true := by
  obtain ⟨h1, h2⟩ := h.lay
  unfold SeqAt.shaped
  rw [h1, decide_eq_true (Nat.le_trans h2 hk)]
  rfl
theorem eqv_all : ∀ {xs ys : List PyData}, (∀ x ∈ xs, ∀ y ∈ ys, x.eqv y = true ↔ x = y) → (PyData.eqvAll xs ys = true ↔ xs = ys)
  | [], [], _ => by simp [PyData.eqvAll]
  | [], _ :: _, _ => by simp [PyData.eqvAll]
  | _ :: _, [], _ => by simp [PyData.eqvAll]
  | x :: xs, y :: ys, h => by
    have h1 := h x (List.mem_cons_self ..) y (List.mem_cons_self ..)
    have h2 := eqv_all (xs := xs) (ys := ys) fun a ha b hb => h a (List.mem_cons_of_mem _ ha) b (List.mem_cons_of_mem _ hb)
    simp only [PyData.eqvAll, Bool.and_eq_true, h1, h2, List.cons.injEq]
theorem P.eqv {j : Nat} {a : PyData} (ha : P j a) : ∀ {k : Nat} {b : PyData}, P k b → (a.eqv b = true ↔ a = b) := by
  induction ha with
  | none => intro k b hb; cases hb <;> simp [PyData.eqv]
  | int i => intro k b hb; cases hb <;> simp [PyData.eqv]
  | str h => intro k b hb; cases hb <;> simp [PyData.eqv]
  | tuple _ ih =>
    intro k b hb
    cases hb with
    | tuple h2 => simp only [PyData.eqv, PyData.tuple.injEq]; exact eqv_all fun x hx y hy => ih x hx (h2 y hy)
    | _ => simp [PyData.eqv]
  | list _ ih =>
    intro k b hb
    cases hb with
    | list h2 => simp only [PyData.eqv, PyData.list.injEq]; exact eqv_all fun x hx y hy => ih x hx (h2 y hy)
    | _ => simp [PyData.eqv]
theorem gEq_P {j k : Nat} {a b : PyData} (ha : P j a) (hb : P k b) (p : Prop) [Decidable p] (hp : a = b ↔ p) (hj : j ≤ 64 := by decide) (hk : k ≤ 64 := by decide) : gEq a b = some (.bool (decide p)) := by
  unfold gEq
  rw [ha.shaped hj, hb.shaped hk]
  have : a.eqv b = decide p := by
    rw [Bool.eq_iff_iff, ha.eqv hb, hp, decide_eq_true_iff]
  rw [this]
  rfl
theorem gNe_P {j k : Nat} {a b : PyData} (ha : P j a) (hb : P k b) (p : Prop) [Decidable p] (hp : a = b ↔ p) (hj : j ≤ 64 := by decide) (hk : k ≤ 64 := by decide) : gNe a b = some (.bool (!decide p)) := by
  unfold gNe
  rw [ha.shaped hj, hb.shaped hk]
  have : a.eqv b = decide p := by
    rw [Bool.eq_iff_iff, ha.eqv hb, hp, decide_eq_true_iff]
  rw [this]
  rfl
@[simp] theorem gEq_int (i j : Int) : gEq (.int i) (.int j) = some (.bool (decide (i = j))) := gEq_P (j := 0) (k := 0) (.int i) (.int j) _ (by simp)
@[simp] theorem gNe_int (i j : Int) : gNe (.int i) (.int j) = some (.bool (!decide (i = j))) := gNe_P (j := 0) (k := 0) (.int i) (.int j) _ (by simp)
section
variable {ρ : Rho} {d x y z : PyData} {ds : List PyData} {i j : Nat} {α β : Type} {a b c : M PyData} {s t : M Bool} {as : M (List PyData)} {f g : SM}
@[simp] theorem e_bind {f : M α} {k : α → M β} : M.bind f k ρ = match f ρ with
  | .ok (a, ρ') => k a ρ'
  | .exc c => .exc c
  | .bad => .bad := rfl
@[simp] theorem e_pure {v : α} : M.pure v ρ = .ok (v, ρ) := rfl
@[simp] theorem e_lift {r : R α} : M.lift r ρ = match r with
  | .ok a => .ok (a, ρ)
  | .exc c => .exc c
  | .bad => .bad := rfl
@[simp] theorem e_some {v : α} : M.opt (some v) ρ = .ok (v, ρ) := rfl
@[simp] theorem e_vN : vN i ρ = match ρ[i]? with
  | some (.sh d) => .ok (d, ρ)
  | _ => .bad := rfl
@[simp] theorem e_cD : cD d ρ = .ok (d, ρ) := rfl
@[simp] theorem e_op1 {g : PyData → Option PyData} : op1 g a ρ = (M.bind a fun x => M.opt (g x)) ρ := rfl
@[simp] theorem e_op2 {g : PyData → PyData → Option PyData} : op2 g a b ρ = (M.bind a fun x => M.bind b fun y => M.opt (g x y)) ρ := rfl
@[simp] theorem e_aN : aN ρ = .ok ([], ρ) := rfl
@[simp] theorem e_aC : aC a as ρ = (M.bind a fun x => M.bind as fun xs => M.pure (x :: xs)) ρ := rfl
@[simp] theorem e_opA {g : List PyData → Option PyData} : opA g as ρ = (M.bind as fun ds => M.opt (g ds)) ρ := rfl
@[simp] theorem e_callM {m : List PyData → R PyData} : callM m as ρ = (M.bind as fun ds => M.lift (m ds)) ρ := rfl
@[simp] theorem e_tst : tst a ρ = (M.bind a fun x => M.opt (asB x)) ρ := rfl
@[simp] theorem e_asB {b : Bool} : asB (.bool b) = some b := rfl
@[simp] theorem e_asI {i : Int} : asI (.int i) = some i := rfl
@[simp] theorem e_asL : asL (.list ds) = some ds := rfl
@[simp] theorem e_andT : andT s t ρ = (M.bind s fun x => if x = true then t else M.pure false) ρ := rfl
@[simp] theorem e_orT : orT s t ρ = (M.bind s fun x => if x = true then M.pure true else t) ρ := rfl
@[simp] theorem e_notT : notT s ρ = (M.bind s fun x => M.pure (!x)) ρ := rfl
@[simp] theorem e_andV : andV a b ρ = (M.bind a fun x => M.bind (M.opt (asB x)) fun c => if c = true then b else M.pure (.bool false)) ρ := rfl
@[simp] theorem e_orV : orV a b ρ = (M.bind a fun x => M.bind (M.opt (asB x)) fun c => if c = true then M.pure (.bool true) else b) ρ := rfl
@[simp] theorem e_notV : notV a ρ = (M.bind a fun x => M.opt ((asB x).map fun b => .bool (!b))) ρ := rfl
@[simp] theorem e_ifV : ifV s a b ρ = (M.bind s fun c => if c = true then a else b) ρ := rfl
@[simp] theorem e_chain {g g' : PyData → PyData → Option PyData} : chain g g' a b c ρ = (M.bind a fun x => M.bind b fun y => M.bind (M.opt ((g x y).bind asB)) fun k => if k = true then M.bind c fun z => M.opt (g' y z) else M.pure (.bool false)) ρ := rfl
@[simp] theorem e_prt : prt a ρ = (M.bind a fun x => M.bind (M.opt (asI x)) fun i => M.pure (some i)) ρ := rfl
@[simp] theorem e_noPrt : noPrt ρ = .ok (none, ρ) := rfl
@[simp] theorem e_slc {l h : M (Option Int)} : slc a l h ρ = (M.bind a fun x => M.bind l fun l => M.bind h fun h => M.opt (gCut l h x)) ρ := rfl
@[simp] theorem e_seqI : seqI a ρ = (M.bind a fun d => M.opt (itemsD d)) ρ := rfl
@[simp] theorem e_opI {g : List PyData → Option (List PyData)} : opI g as ρ = (M.bind as fun ds => M.opt (g ds)) ρ := rfl
@[simp] theorem e_isi {T : Ty} : isi T a ρ = (M.bind a fun d => M.opt (some (.bool (isD T d)))) ρ := rfl
@[simp] theorem e_opM {g : PyData → List PyData → Option PyData} : opM g a as ρ = (M.bind a fun x => M.bind (M.opt (asL x)) fun _ => M.bind as fun xs => M.opt (g x xs)) ρ := rfl
@[simp] theorem e_yes : yesT ρ = .ok (true, ρ) := rfl
@[simp] theorem e_seqO : seqO f g ρ = match f ρ with
  | .nx ρ' => g ρ'
  | o => o := rfl
@[simp] theorem e_exO {f : M α} {k : α → SM} : exO f k ρ = match f ρ with
  | .ok (a, ρ') => k a ρ'
  | .exc c => .exc c
  | .bad => .bad := rfl
@[simp] theorem e_nxO : nxO ρ = .nx ρ := rfl
@[simp] theorem e_dropO : dropO a ρ = (exO a fun _ => nxO) ρ := rfl
@[simp] theorem e_retO : retO a ρ = (exO a fun d ρ => .rt d ρ) ρ := rfl
@[simp] theorem e_ifO : ifO s f g ρ = (exO s fun b => if b = true then f else g) ρ := rfl
@[simp] theorem e_raiseO {c : Str} : raiseO c ρ = .exc c := rfl
@[simp] theorem e_asgO {g : GM} : asgO a g ρ = (exO a fun d ρ => match g d ρ with
  | .ok ρ' => .nx ρ'
  | .exc c => .bad
  | .bad => .bad) ρ := rfl
@[simp] theorem e_setS : setS i d ρ = if i < ρ.length then .ok (ρ.set i (.sh d)) else .bad := rfl
@[simp] theorem e_unT {gs : List PyData → Rho → R Rho} : unT gs (.tuple ds) ρ = gs ds ρ := rfl
@[simp] theorem e_gsN : gsN [] ρ = .ok ρ := rfl
@[simp] theorem e_gsC {g : GM} {gs : List PyData → Rho → R Rho} : gsC g gs (d :: ds) ρ = R.bind (g d ρ) fun ρ' => gs ds ρ' := rfl
@[simp] theorem e_Rbind {r : R α} {k : α → R β} : R.bind r k = match r with
  | .ok a => k a
  | .exc c => .exc c
  | .bad => .bad := rfl
@[simp] theorem e_par2 : par2 i j as ρ = (exO as fun ds ρ => match ds with
  | [x, y] => if i < ρ.length ∧ j < ρ.length then .nx ((ρ.set i (.sh x)).set j (.sh y)) else .bad
  | _ => .bad) ρ := rfl
@[simp] theorem e_forO {g : GM} : forO as g f ρ = (exO as fun ds => loopO g f ds) ρ := rfl
@[simp] theorem e_items_t : itemsD (.tuple ds) = some ds := rfl
@[simp] theorem e_items_l : itemsD (.list ds) = some ds := rfl
@[simp] theorem e_ix_t {k : Int} : gIx (.tuple ds) (.int k) = atD ds k := rfl
@[simp] theorem e_ix_l {k : Int} : gIx (.list ds) (.int k) = atD ds k := rfl
@[simp] theorem e_at {k : Nat} : atD ds ((k : Nat) : Int) = ds[k]? := by
  unfold atD; rw [if_pos (by omega)]; rfl
@[simp] theorem e_at0 : atD ds 0 = ds[0]? := e_at (k := 0)
@[simp] theorem e_at1 : atD ds 1 = ds[1]? := e_at (k := 1)
@[simp] theorem e_at2 : atD ds 2 = ds[2]? := e_at (k := 2)
@[simp] theorem e_len_t : gLen [.tuple ds] = some (.int ds.length) := rfl
@[simp] theorem e_len_l : gLen [.list ds] = some (.int ds.length) := rfl
@[simp] theorem e_tuple_l : gTuple [.list ds] = some (.tuple ds) := rfl
@[simp] theorem e_tuple_t : gTuple [.tuple ds] = some (.tuple ds) := rfl
@[simp] theorem e_le {k l : Int} : gLe (.int k) (.int l) = some (.bool (decide (k ≤ l))) := rfl
@[simp] theorem e_gt {k l : Int} : gGt (.int k) (.int l) = some (.bool (decide (l < k))) := rfl
@[simp] theorem e_ge {k l : Int} : gGe (.int k) (.int l) = some (.bool (decide (l ≤ k))) := rfl
@[simp] theorem e_add {k l : Int} : gAdd (.int k) (.int l) = some (.int (k + l)) := rfl
@[simp] theorem e_sub {k l : Int} : gSub (.int k) (.int l) = some (.int (k - l)) := rfl
@[simp] theorem e_isNot {k l : Bool} : gIsNot (.bool k) (.bool l) = some (.bool (!decide (k = l))) := rfl
@[simp] theorem e_is {k l : Bool} : gIs (.bool k) (.bool l) = some (.bool (decide (k = l))) := rfl
theorem e_mul {k l : Int} (h : -(2 ^ 64) < l ∧ l < 2 ^ 64) : gMul (.int k) (.int l) = some (.int (k * l)) := if_pos (.inl (.inr h))
theorem e_mod {k l : Int} (h : 0 < l) : gMod (.int k) (.int l) = some (.int (k % l)) := if_pos h
theorem e_div {k l : Int} (h : 0 < l ∧ l < 2 ^ 200) : gDiv (.int k) (.int l) = some (.int (k / l)) := if_pos h
@[simp] theorem e_LIM : LIM = 1000000 := rfl
@[simp] theorem e_tupD : gTupD ds = if ds.length ≤ LIM then some (.tuple ds) else none := rfl
@[simp] theorem e_lstD : gLstD ds = if ds.length ≤ LIM then some (.list ds) else none := rfl
@[simp] theorem e_wipe0 {ρ : Rho} : wipeR ρ [] = ρ := rfl
@[simp] theorem e_wipe {ρ : Rho} {v : Nat} {vs : List Nat} : wipeR ρ (v :: vs) = (wipeR ρ vs).set v .no := rfl
end
end G
set_option Elab.async false
set_option linter.all false
set_option maxRecDepth 100000
set_option maxHeartbeats 1000000
namespace G
open PySem DL
local instance : DL.TabCtx := ⟨[]⟩
theorem cut_from (ds : List PyData) (k : Nat) : cutD ds (some (k : Int)) none = ds.drop k := by
  unfold cutD
  rw [HT.sIx_nat, HT.sIx_none]
  by_cases h : k ≤ ds.length
  · rw [Nat.min_eq_left h, List.take_of_length_le (by simp)]
  · rw [Nat.min_eq_right (by omega), Nat.sub_self, List.take_zero, List.drop_eq_nil_of_le (by omega)]
theorem cut_to (ds : List PyData) (k : Nat) : cutD ds none (some (k : Int)) = ds.take k := by
  unfold cutD
  rw [HT.sIx_nat, HT.sIx_none, Nat.sub_zero, List.drop_zero]
  by_cases h : k ≤ ds.length
  · rw [Nat.min_eq_left h]
  · rw [Nat.min_eq_right (by omega), List.take_of_length_le (by omega), List.take_of_length_le (by omega)]
@[simp] theorem cut_from1 (ds : List PyData) : cutD ds (some 1) none = ds.drop 1 := cut_from ds 1
@[simp] theorem cut_to1 (ds : List PyData) : cutD ds none (some 1) = ds.take 1 := cut_to ds 1
@[simp] theorem e_cut_t {lo hi : Option Int} {ds : List PyData} : gCut lo hi (.tuple ds) = some (.tuple (cutD ds lo hi)) := rfl
@[simp] theorem e_cut_l {lo hi : Option Int} {ds : List PyData} : gCut lo hi (.list ds) = some (.list (cutD ds lo hi)) := rfl
structure Sg where
  name : Str
  ears : List (Str × Int)
  tab : List Int
deriving DecidableEq
def Sg.d (s : Sg) : PyData := .tuple [.str s.name, .tuple (s.ears.map siD), .tuple (s.tab.map .int)]
def chD (many : Int) (ss : List Sg) : PyData := .tuple [.int many, .tuple (ss.map Sg.d)]
def Wd (s : Str) : Prop := m_is_word [.str s] = .ok (.bool true) ∧ (PyData.str s).canLay0 = true
def rising {α : Type} (lt : α → α → Bool) (xs : List α) : Bool := (xs.zip xs.tail).all fun p => lt p.1 p.2
structure GSg (many : Int) (names : List Str) (s : Sg) : Prop where
  word : Wd s.name
  elen : s.ears.length ≤ 2
  ear : ∀ e ∈ s.ears, Wd e.1 ∧ e.1 ∈ names ∧ 1 ≤ e.2 ∧ e.2 ≤ 3
  rise : rising SrtQ.lexS s.ears = true
  tlen : (s.tab.length : Int) = many ^ s.ears.length
  tab : ∀ t ∈ s.tab, 0 ≤ t ∧ t < many
structure Good (many : Int) (ss : List Sg) : Prop where
  m2 : 2 ≤ many
  m4 : many ≤ 4
  l1 : 1 ≤ ss.length
  l4 : ss.length ≤ 4
  sg : ∀ s ∈ ss, GSg many (ss.map (·.name)) s
  rise : rising SrtQ.ltS (ss.map (·.name)) = true
theorem P_ints {k : Nat} (ns : List Int) : ∀ x ∈ ns.map PyData.int, P k x := fun x hx => by
  obtain ⟨n, _, rfl⟩ := List.mem_map.mp hx; exact .int n
theorem P_ear {k : Nat} {e : Str × Int} (h : Wd e.1) : P (k + 1) (siD e) := .tuple fun x hx => by
  simp at hx; rcases hx with rfl | rfl
  · exact .str h.2
  · exact .int _
theorem P_sg {k : Nat} {s : Sg} (h : Wd s.name) (he : ∀ e ∈ s.ears, Wd e.1) : P (k + 3) s.d := .tuple fun x hx => by
  simp at hx; rcases hx with rfl | rfl | rfl
  · exact .str h.2
  · exact .tuple fun x hx => by obtain ⟨e, h1, rfl⟩ := List.mem_map.mp hx; exact P_ear (he e h1)
  · exact .tuple (P_ints _)
theorem P_ch {k : Nat} {m : Int} {ss : List Sg} (h : ∀ s ∈ ss, Wd s.name ∧ ∀ e ∈ s.ears, Wd e.1) : P (k + 5) (chD m ss) := .tuple fun x hx => by
  simp at hx; rcases hx with rfl | rfl
  · exact .int _
  · exact .tuple fun x hx => by obtain ⟨s, h1, rfl⟩ := List.mem_map.mp hx; exact P_sg (h s h1).1 (h s h1).2
theorem GSg.p {k : Nat} {many : Int} {names : List Str} {s : Sg} (h : GSg many names s) : P (k + 3) s.d := P_sg h.word fun e he => (h.ear e he).1
theorem Good.p {k : Nat} {many : Int} {ss : List Sg} (h : Good many ss) : P (k + 5) (chD many ss) := P_ch fun s hs => ⟨(h.sg s hs).word, fun e he => ((h.sg s hs).ear e he).1⟩
theorem lt_str (a b : Str) : gLt (.str a) (.str b) = some (.bool (SrtQ.ltS a b)) := rfl
end G
set_option Elab.async false
set_option linter.all false
set_option maxRecDepth 100000
set_option maxHeartbeats 1000000
namespace G
open PySem DL
local instance : DL.TabCtx := ⟨[]⟩
section
variable {ρ : Rho} {d x y z : PyData} {ds : List PyData} {i j : Nat} {a b c : M PyData} {t : M Bool} {as : M (List PyData)} {f g : SM}
@[simp] theorem e_ownO : ownO i as ρ = (exO as fun ds ρ => if ds.length ≤ LIM then .nx (ρ.set i (.ow (.list ds))) else .bad) ρ := rfl
@[simp] theorem e_appO : appO i a ρ = match ρ[i]? with
  | some (.ow (.list _)) => exO a (fun d ρ => match ρ[i]? with
    | some (.ow (.list ds)) => if ds.length < LIM then .nx (ρ.set i (.ow (.list (ds ++ [d])))) else .bad
    | _ => .bad) ρ
  | _ => .bad := rfl
@[simp] theorem e_isOw {d : PyData} : isOw (some (.ow d)) = true := rfl
@[simp] theorem e_isOwn1 {d : PyData} : isOwn1 (some (.ow d)) = true := rfl
@[simp] theorem e_ixO : ixO i a ρ = if isOwn1 ρ[i]? = true then ixI i a ρ else .bad := rfl
def ixK (i : Nat) (k : PyData) : M PyData := fun ρ => match ρ[i]?, k with
  | some (.ow (.list ds)), .int j => (match atD ds j with
    | some z => .ok (z, ρ)
    | none => .bad)
  | _, _ => .bad
@[simp] theorem e_ixI : ixI i a ρ = (M.bind a (ixK i)) ρ := rfl
@[simp] theorem e_ixK {k : Int} (h : ρ[i]? = some (.ow (.list ds))) : ixK i (.int k) ρ = match atD ds k with
    | some z => .ok (z, ρ)
    | none => .bad := by unfold ixK; rw [h]
@[simp] theorem e_sixO : sixO i b a ρ = (exO a fun d ρ => if isOwn1 ρ[i]? = true then exO b (fun j ρ => match ρ[i]?, j with
  | some (.ow (.list ds)), .int j => (match L2.ixN ds.length j with
    | some n => .nx (ρ.set i (.ow (.list (ds.set n d))))
    | none => .bad)
  | _, _ => .bad) ρ else .bad) ρ := rfl
@[simp] theorem e_callL {m : PyData → List PyData → R (PyData × PyData)} : callL i m as ρ = if isOwn1 ρ[i]? = true then callI i m as ρ else .bad := rfl
def callK (i : Nat) (m : PyData → List PyData → R (PyData × PyData)) (ds : List PyData) : M PyData := fun ρ => match ρ[i]? with
  | some (.ow dd) => (match m dd ds with
    | .ok (d, dd') => .ok (d, ρ.set i (.ow dd'))
    | .exc c => .exc c
    | .bad => .bad)
  | _ => .bad
@[simp] theorem e_callI {m : PyData → List PyData → R (PyData × PyData)} : callI i m as ρ = (M.bind as (callK i m)) ρ := rfl
@[simp] theorem e_callK {m : PyData → List PyData → R (PyData × PyData)} : callK i m ds ρ = match ρ[i]? with
  | some (.ow dd) => (match m dd ds with
    | .ok (d, dd') => .ok (d, ρ.set i (.ow dd'))
    | .exc c => .exc c
    | .bad => .bad)
  | _ => .bad := rfl
@[simp] theorem e_demR1 {s : Sl} : demR true (s :: ρ) = s :: ρ.map demSl := rfl
@[simp] theorem e_demR0 : demR false ρ = ρ.map demSl := rfl
@[simp] theorem e_demOw : demSl (.ow d) = .sh d := rfl
@[simp] theorem e_demSh : demSl (.sh d) = .sh d := rfl
@[simp] theorem e_demNo : demSl .no = .no := rfl
@[simp] theorem e_back1 {s s' : Sl} {ρ' : Rho} : backR true (s :: ρ) (s' :: ρ') = if immSl s' = true then some (s' :: ρ) else none := rfl
@[simp] theorem e_back0 {ρ' : Rho} : backR false ρ ρ' = some ρ := rfl
@[simp] theorem e_brw {b : Bool} : brw b a ρ = match a (demR b ρ) with
  | .ok (d, ρ') => if imm d = true then (match backR b ρ ρ' with
    | some ρ'' => .ok (d, ρ'')
    | none => .bad) else .bad
  | .exc c => .exc c
  | .bad => .bad := rfl
@[simp] theorem e_brwT {b : Bool} : brwT b t ρ = match t (demR b ρ) with
  | .ok (d, ρ') => (match backR b ρ ρ' with
    | some ρ'' => .ok (d, ρ'')
    | none => .bad)
  | .exc c => .exc c
  | .bad => .bad := rfl
@[simp] theorem e_demO {b : Bool} : demO b f ρ = f (demR b ρ) := rfl
end
def dcD (s : Int × Int) : PyData := .list [.int s.1, .int s.2]
@[simp] theorem imm_dc (s : Int × Int) : immSl (.ow (dcD s)) = true := rfl
theorem drawn_ok (c k : Int) : ∃ v : Int, m_law_drawn [.int c, .int k] = .ok (.int v) := by
  have p1 : ∀ x : Int, gMul (.int x) (.int 6364136223846793005) = some (.int (x * 6364136223846793005)) := fun x => e_mul (by decide)
  have p2 : ∀ x : Int, gMul (.int x) (.int 1442695040888963407) = some (.int (x * 1442695040888963407)) := fun x => e_mul (by decide)
  have p3 : ∀ x : Int, gMod (.int x) (.int 340282366920938463463374607431768211507) = some (.int (x % 340282366920938463463374607431768211507)) := fun x => e_mod (by decide)
  have p4 : ∀ x : Int, gMod (.int x) (.int 340282366920938463463374607431768211297) = some (.int (x % 340282366920938463463374607431768211297)) := fun x => e_mod (by decide)
  have p5 : ∀ x : Int, gMod (.int x) (.int 18446744073709551557) = some (.int (x % 18446744073709551557)) := fun x => e_mod (by decide)
  have p6 : ∀ x : Int, gDiv (.int x) (.int 18446744073709551557) = some (.int (x / 18446744073709551557)) := fun x => e_div (by decide)
  have lt : ∀ {x : Int} {n : Nat}, 0 ≤ x → x < 2 ^ n → n ≤ 2000 → x.natAbs < 2 ^ 2000 := fun {x n} h0 h1 h2 => by
    have : x.natAbs < 2 ^ n := by
      have e : ((x.natAbs : Nat) : Int) = x := Int.natAbs_of_nonneg h0
      have : ((x.natAbs : Nat) : Int) < ((2 ^ n : Nat) : Int) := by rw [e]; push_cast; exact h1
      exact Int.ofNat_lt.mp this
    exact Nat.lt_of_lt_of_le this (Nat.pow_le_pow_right (by decide) h2)
  have mul : ∀ {x y : Int}, x.natAbs < 2 ^ 2000 → y.natAbs < 2 ^ 2000 → gMul (.int x) (.int y) = some (.int (x * y)) := fun h1 h2 => if_pos (.inr ⟨h1, h2⟩)
  generalize ha : (c * 6364136223846793005 + (k + 1) * 1442695040888963407) % 340282366920938463463374607431768211507 = a
  have a0 : 0 ≤ a := by rw [← ha]; exact Int.emod_nonneg _ (by decide)
  have a1 : a < 2 ^ 130 := Int.lt_trans (by rw [← ha]; exact Int.emod_lt_of_pos _ (by decide)) (by decide : (340282366920938463463374607431768211507 : Int) < 2 ^ 130)
  have q1 : gMul (.int a) (.int a) = some (.int (a * a)) := mul (lt a0 a1 (by decide)) (lt a0 a1 (by decide))
  generalize hb : a * a % 340282366920938463463374607431768211297 = b
  have b0 : 0 ≤ b := by rw [← hb]; exact Int.emod_nonneg _ (by decide)
  have b1 : b < 2 ^ 130 := Int.lt_trans (by rw [← hb]; exact Int.emod_lt_of_pos _ (by decide)) (by decide : (340282366920938463463374607431768211297 : Int) < 2 ^ 130)
  have c0 : 0 ≤ b % 18446744073709551557 + 1 := by have := Int.emod_nonneg b (by decide : (18446744073709551557 : Int) ≠ 0); omega
  have c1 : b % 18446744073709551557 + 1 < 2 ^ 130 := by have := Int.emod_lt_of_pos b (by decide : (0 : Int) < 18446744073709551557); omega
  have d0 : 0 ≤ b / 18446744073709551557 + 1 := by omega
  have d1 : b / 18446744073709551557 + 1 < 2 ^ 131 := by omega
  have q2 : gMul (.int (b % 18446744073709551557 + 1)) (.int (b / 18446744073709551557 + 1)) = some (.int ((b % 18446744073709551557 + 1) * (b / 18446744073709551557 + 1))) := mul (lt c0 c1 (by decide)) (lt d0 d1 (by decide))
  have q3 : gMul (.int ((b % 18446744073709551557 + 1) * (b / 18446744073709551557 + 1))) (.int b) = some (.int ((b % 18446744073709551557 + 1) * (b / 18446744073709551557 + 1) * b)) := by
    refine mul ?_ (lt b0 b1 (by decide))
    refine lt (n := 261) (Int.mul_nonneg c0 d0) ?_ (by decide)
    have := Int.mul_lt_mul c1 (Int.le_of_lt d1) (by omega) (by decide : (0 : Int) ≤ 2 ^ 130)
    rw [← Int.pow_add] at this
    exact this
  refine ⟨_, by simp only [m_law_drawn, b_law_drawn, fnRun, start0]; simp [p1, p2, p3, ha, q1, p4, hb, p5, p6, q2, q3]; rfl⟩
theorem roll_ex (s : Int × Int) (n : Int) (h0 : 0 < n) (h1 : n < 2 ^ 200) : ∃ (r : Int) (s' : Int × Int), m_law_roll (dcD s) [.int n] = .ok (.int r, dcD s') ∧ 0 ≤ r ∧ r < n := by
  have p1 : gPow (.int 10) (.int 18) = some (.int (10 ^ 18)) := rfl
  have p2 : ∀ x : Int, gMod (.int x) (.int n) = some (.int (x % n)) := fun x => e_mod h0
  have p3 : ∀ x : Int, gDiv (.int x) (.int n) = some (.int (x / n)) := fun x => e_div ⟨h0, h1⟩
  have p4 : ∀ x : Int, gDiv (.int x) (.int 8) = some (.int (x / 8)) := fun x => e_div (by decide)
  have n0 : L2.ixN 2 0 = some 0 := rfl
  have n1 : L2.ixN 2 1 = some 1 := rfl
  obtain ⟨c, k⟩ := s
  by_cases h : (10 ^ 18 : Int) ≤ c
  · refine ⟨c % n, (c / n, k), ?_, Int.emod_nonneg _ (by omega), Int.emod_lt_of_pos _ h0⟩
    have h' : (1000000000000000000 : Int) ≤ c := h
    simp [m_law_roll, b_law_roll, fnRunL, start1, dcD, p1, p2, p3, n0, h']
  · obtain ⟨v, hv⟩ := drawn_ok c (k + 1)
    refine ⟨v / 8 % n, (c, k + 1), ?_, Int.emod_nonneg _ (by omega), Int.emod_lt_of_pos _ h0⟩
    have h' : ¬ (1000000000000000000 : Int) ≤ c := h
    simp [m_law_roll, b_law_roll, fnRunL, start1, dcD, p1, p2, p4, n1, h', hv]
end G
set_option Elab.async false
set_option linter.all false
set_option maxRecDepth 100000
set_option maxHeartbeats 1000000
namespace G
open PySem DL
local instance : DL.TabCtx := ⟨[]⟩
end G
set_option Elab.async false
set_option linter.all false
set_option maxRecDepth 100000
set_option maxHeartbeats 1000000
namespace G
open PySem DL
local instance : DL.TabCtx := ⟨[]⟩
end G
set_option Elab.async false
set_option linter.all false
set_option maxRecDepth 100000
set_option maxHeartbeats 1000000
namespace G
open PySem DL
local instance : DL.TabCtx := ⟨[]⟩
abbrev natD (n : Nat) : PyData := .int (n : Nat)
abbrev rowD (r : List Nat) : PyData := .tuple (r.map natD)
def stD (st : List (List Nat)) : PyData := .tuple (st.map rowD)
def nOf (ss : List Sg) (x : Str) : Nat := (ss.map (·.name)).idxOf x
/-- what is heard of an ear -/
def hrd (ss : List Sg) (st : List (List Nat)) (e : Str × Int) : Nat := (st.getD (nOf ss e.1) []).getD (3 - e.2).toNat 0
def plc (m : Nat) (xs : List Nat) : Nat := xs.foldl (fun a x => a * m + x) 0
/-- a singer's line, by what is heard -/
def sem (m : Nat) (s : Sg) (h : Str × Int → Nat) : Int := s.tab.getD (plc m (s.ears.map h)) 0
def nxt (m : Nat) (ss : List Sg) (st : List (List Nat)) : List Int := ss.map fun s => sem m s (hrd ss st)
end G
set_option Elab.async false
set_option linter.all false
set_option maxRecDepth 100000
set_option maxHeartbeats 1000000
namespace G
open PySem DL
local instance : DL.TabCtx := ⟨[]⟩
def pr (at_ : Nat) (line other : Nat) : List Nat := if at_ = 0 then [line, other] else [other, line]
end G
set_option Elab.async false
set_option linter.all false
set_option maxRecDepth 100000
set_option maxHeartbeats 1000000
namespace G
open PySem DL
local instance : DL.TabCtx := ⟨[]⟩
end G
set_option Elab.async false
set_option linter.all false
set_option maxRecDepth 100000
set_option maxHeartbeats 1000000
namespace G
open PySem DL
local instance : DL.TabCtx := ⟨[]⟩
/-- within the lines -/
def Rng (m : Nat) (h : Str × Int → Nat) : Prop := ∀ e, h e < m
/-- the line hangs on an ear -/
def Dep (m : Nat) (s : Sg) (e : Str × Int) : Prop := ∃ h h' : Str × Int → Nat, Rng m h ∧ Rng m h' ∧ (∀ f, f ≠ e → h f = h' f) ∧ sem m s h ≠ sem m s h'
theorem sem_congr {m : Nat} {s : Sg} {h h' : Str × Int → Nat} (he : ∀ e ∈ s.ears, h e = h' e) : sem m s h = sem m s h' := by
  unfold sem; rw [List.map_congr_left he]
theorem Dep.mem {m : Nat} {s : Sg} {e : Str × Int} (h : Dep m s e) : e ∈ s.ears := by
  obtain ⟨a, b, _, _, hf, hn⟩ := h
  refine Classical.byContradiction fun hc => hn (sem_congr fun f hf' => hf f fun z => hc (by rw [← z]; exact hf'))
def asg2 (e f : Str × Int) (x y : Nat) : Str × Int → Nat := fun g => if g = e then x else if g = f then y else 0
end G
set_option Elab.async false
set_option linter.all false
set_option maxRecDepth 100000
set_option maxHeartbeats 1000000
namespace G
open PySem DL
local instance : DL.TabCtx := ⟨[]⟩
/-- the table, by what is sung -/
def tabOf (m : Nat) (s : Sg) : List (Str × Int) → List Int
  | [] => [sem m s fun _ => 0]
  | [e] => (List.range m).map fun x => sem m s (asg2 e e x 0)
  | e :: f :: _ => (List.range (m * m)).map fun i => sem m s (asg2 e f (i / m) (i % m))
end G
set_option Elab.async false
set_option linter.all false
set_option maxRecDepth 100000
set_option maxHeartbeats 1000000
namespace G
open PySem DL
local instance : DL.TabCtx := ⟨[]⟩
def beh (st : List (List Nat)) (ls : List Nat) : List (List Nat) := (st.zip ls).map fun p => p.1.drop 1 ++ [p.2]
end G
set_option Elab.async false
set_option linter.all false
set_option maxRecDepth 100000
set_option maxHeartbeats 1000000
namespace G
open PySem DL
local instance : DL.TabCtx := ⟨[]⟩
def tups (m : Nat) : Nat → List (List Nat)
  | 0 => [[]]
  | k + 1 => (tups m k).flatMap fun o => (List.range m).map fun l => o ++ [l]
end G
set_option Elab.async false
set_option linter.all false
set_option maxRecDepth 100000
set_option maxHeartbeats 1000000
namespace G
open PySem DL
local instance : DL.TabCtx := ⟨[]⟩
section
variable {ρ : Rho} {d x y z : PyData} {ds : List PyData} {i j : Nat} {a b c : M PyData} {t : M Bool} {as : M (List PyData)} {ss : M (List Sl)} {f g : SM}
@[simp] theorem e_xN : xN ρ = .ok ([], ρ) := rfl
@[simp] theorem e_xSh : xSh a ss ρ = (M.bind a fun x => M.bind ss fun xs => M.pure (.sh x :: xs)) ρ := rfl
@[simp] theorem e_xOw : xOw a ss ρ = (M.bind a fun x => M.bind ss fun xs => M.pure (.ow x :: xs)) ρ := rfl
@[simp] theorem e_parO {is : List Nat} : parO is ss ρ = (exO ss fun ss ρ => if ss.length = is.length then .nx (setL is ss ρ) else .bad) ρ := rfl
@[simp] theorem e_setL {k : Nat} {ks : List Nat} {s : Sl} {ss : List Sl} : setL (k :: ks) (s :: ss) ρ = setL ks ss (ρ.set k s) := rfl
@[simp] theorem e_setL0 : setL [] [] ρ = ρ := rfl
@[simp] theorem e_ownFO : ownFO i a ρ = (exO a fun d ρ => .nx (ρ.set i (.ow d))) ρ := rfl
@[simp] theorem e_retF : retF a ρ = (exO a fun d ρ => .rf d ρ) ρ := rfl
@[simp] theorem e_callF {m : List PyData → R PyData} : callF m as ρ = (M.bind as fun ds => M.lift (immR (m ds))) ρ := rfl
@[simp] theorem e_slcL {l h : M (Option Int)} : slcL a l h ρ = (M.bind a fun x => M.bind l fun l => M.bind h fun h => M.opt (gCutL l h x)) ρ := rfl
@[simp] theorem e_cutL {lo hi : Option Int} : gCutL lo hi (.list ds) = some (.list (cutD ds lo hi)) := rfl
@[simp] theorem e_dsetO : dsetO i b a ρ = (exO a fun dv ρ => if isOwn1 ρ[i]? = true then exO b (fun dk ρ => match ρ[i]? with
  | some (.ow (.dict ps)) => if keyOk ps dk = true ∧ ps.length < LIM then .nx (ρ.set i (.ow (.dict (dput ps dk dv)))) else .bad
  | _ => .bad) ρ else .bad) ρ := rfl
@[simp] theorem e_isDict {ps : List (PyData × PyData)} : isDict (.dict ps) = true := rfl
@[simp] theorem e_dget1 : dget1 a b ρ = (M.bind a fun d => if isDict d = true then M.bind b fun k => M.opt (gGet1 d k) else fun _ => .bad) ρ := rfl
@[simp] theorem e_dget2 : dget2 a b c ρ = (M.bind a fun d => if isDict d = true then M.bind b fun k => M.bind c fun x => M.opt (gGet2 d k x) else fun _ => .bad) ρ := rfl
@[simp] theorem e_whileO {n : Nat} : whileO n t f ρ = whileN t f n ρ := rfl
@[simp] theorem e_neg {k : Int} : gNeg (.int k) = some (.int (-k)) := rfl
end
end G
set_option Elab.async false
set_option linter.all false
set_option maxRecDepth 100000
set_option maxHeartbeats 1000000
namespace G
open PySem DL
local instance : DL.TabCtx := ⟨[]⟩
@[simp] theorem imm_intS (i : Int) : imm (.int i) = true := rfl
def knownD (f : Nat → List (List Nat)) (i : Nat) : List (PyData × PyData) := (List.range i).map fun j => (stD (f j), natD j)
def rowSt (f : Nat → List (List Nat)) (i : Nat) : List PyData := (List.range i).map fun j => stD (f j)
@[simp] theorem rowSt_len (f : Nat → List (List Nat)) (i : Nat) : (rowSt f i).length = i := by unfold rowSt; simp
@[simp] theorem knownD_len (f : Nat → List (List Nat)) (i : Nat) : (knownD f i).length = i := by unfold knownD; simp
end G
set_option Elab.async false
set_option linter.all false
set_option maxRecDepth 100000
set_option maxHeartbeats 1000000
namespace G
open PySem DL
local instance : DL.TabCtx := ⟨[]⟩
def col (st : List (List Nat)) (j : Nat) : List Nat := st.map fun r => r.getD j 0
/-- what is heard of an ear by a history -/
def hh (ss : List Sg) (hs : List (List Nat)) (b : Nat) (e : Str × Int) : Nat := (hs.getD ((b : Int) + 3 - e.2).toNat []).getD (nOf ss e.1) 0
section
variable (m : Nat) (ss : List Sg) (ld : Nat → Str → Option Nat)
def lrow (b : Nat) (st : List (List Nat)) : List Nat := ss.map fun s => (ld b s.name).getD (sem m s (hrd ss st)).toNat
end
end G
set_option Elab.async false
set_option linter.all false
set_option maxRecDepth 100000
set_option maxHeartbeats 1000000
namespace G
open PySem DL
local instance : DL.TabCtx := ⟨[]⟩
@[simp] theorem immR_ok {d : PyData} (h : immC d = true) : immR (.ok d) = .ok d := if_pos h
theorem seq_nx {f g : SM} {ρ ρ' : Rho} (h : f ρ = .nx ρ') : seqO f g ρ = g ρ' := by unfold seqO; rw [h]
theorem asg_set {a : M PyData} {i : Nat} {d : PyData} {ρ ρ' : Rho} (h : a ρ = .ok (d, ρ')) (hi : i < ρ'.length) : asgO a (setS i) ρ = .nx (ρ'.set i (.sh d)) := by
  unfold asgO exO; rw [h]
  show (match setS i d ρ' with | .ok ρ' => O.nx ρ' | .exc _ => .bad | .bad => .bad) = _
  unfold setS; rw [if_pos hi]
theorem opA_ok {g : List PyData → Option PyData} {as : M (List PyData)} {ds : List PyData} {z : PyData} {ρ ρ' : Rho} (h : as ρ = .ok (ds, ρ')) (hg : g ds = some z) : opA g as ρ = .ok (z, ρ') := by
  unfold opA M.bind; rw [h]; show M.opt (g ds) ρ' = _; rw [hg]; rfl
theorem aC1 {a : M PyData} {d : PyData} {ρ ρ' : Rho} (h : a ρ = .ok (d, ρ')) : aC a aN ρ = .ok ([d], ρ') := by unfold aC M.bind; rw [h]; rfl
theorem op2_ok {g : PyData → PyData → Option PyData} {a b : M PyData} {x y z : PyData} {ρ ρ1 ρ2 : Rho} (ha : a ρ = .ok (x, ρ1)) (hb : b ρ1 = .ok (y, ρ2)) (hg : g x y = some z) : op2 g a b ρ = .ok (z, ρ2) := by
  simp [ha, hb, hg]
theorem cD_ok {d : PyData} {ρ : Rho} : cD d ρ = .ok (d, ρ) := rfl
theorem aC_ok {a : M PyData} {as : M (List PyData)} {d : PyData} {ds : List PyData} {ρ ρ1 ρ2 : Rho} (h : a ρ = .ok (d, ρ1)) (hs : as ρ1 = .ok (ds, ρ2)) : aC a as ρ = .ok (d :: ds, ρ2) := by simp [h, hs]
theorem aN_ok {ρ : Rho} : aN ρ = .ok ([], ρ) := rfl
theorem asg_gm {a : M PyData} {g : GM} {d : PyData} {ρ ρ' ρ'' : Rho} (h : a ρ = .ok (d, ρ')) (hg : g d ρ' = .ok ρ'') : asgO a g ρ = .nx ρ'' := by simp [h, hg]
end G
set_option Elab.async false
set_option linter.all false
set_option maxRecDepth 100000
set_option maxHeartbeats 1000000
namespace G
open PySem DL
local instance : DL.TabCtx := ⟨[]⟩
end G
set_option Elab.async false
set_option linter.all false
set_option maxRecDepth 100000
set_option maxHeartbeats 1000000
namespace G
open PySem DL
local instance : DL.TabCtx := ⟨[]⟩
end G
set_option Elab.async false
set_option linter.all false
set_option maxRecDepth 100000
set_option maxHeartbeats 1000000
namespace G
open PySem DL
local instance : DL.TabCtx := ⟨[]⟩
theorem rising_cons {α : Type} {lt : α → α → Bool} {a b : α} {r : List α} : rising lt (a :: b :: r) = true ↔ lt a b = true ∧ rising lt (b :: r) = true := by
  simp [rising]
theorem rising_pw {α : Type} {lt : α → α → Bool} (tr : ∀ a b c, lt a b = true → lt b c = true → lt a c = true) : ∀ {xs : List α}, rising lt xs = true → xs.Pairwise fun a b => lt a b = true
  | [], _ => List.Pairwise.nil
  | [a], _ => List.pairwise_singleton _ _
  | a :: b :: r, h => by
    obtain ⟨h1, h2⟩ := rising_cons.mp h
    have ih := rising_pw tr h2
    refine List.pairwise_cons.mpr ⟨fun y hy => ?_, ih⟩
    rcases List.mem_cons.mp hy with rfl | hy
    · exact h1
    · exact tr _ _ _ h1 ((List.pairwise_cons.mp ih).1 y hy)
theorem Good.nodup {many : Int} {ss : List Sg} (h : Good many ss) : (ss.map (·.name)).Nodup := by
  refine (rising_pw (lt := SrtQ.ltS) (fun a b c h1 h2 => SrtQ.ltS_trans h1 h2) h.rise).imp fun {a b} h1 z => ?_
  subst z
  rw [SrtQ.ltS_irrefl] at h1
  cases h1
end G
set_option Elab.async false
set_option linter.all false
set_option maxRecDepth 100000
set_option maxHeartbeats 1000000
namespace G
open PySem DL
local instance : DL.TabCtx := ⟨[]⟩
end G
set_option Elab.async false
set_option linter.all false
set_option maxRecDepth 100000
set_option maxHeartbeats 1000000
namespace G
open PySem DL
local instance : DL.TabCtx := ⟨[]⟩
end G
set_option Elab.async false
set_option linter.all false
set_option maxRecDepth 100000
set_option maxHeartbeats 1000000
namespace G
open PySem DL
local instance : DL.TabCtx := ⟨[]⟩
def bts (k : Nat) : List Nat := List.range' 3 k
section
variable {α : Type} [DecidableEq α]
/-- the first beat ahead that clashes with a beat -/
def clA (P : Nat → α) (L : Nat → Nat) (k : Nat) : Option Nat := (bts k).find? fun b => decide (P b = P (3 + k) ∧ L b ≠ L (3 + k))
/-- the first two beats that clash -/
def clO (P : Nat → α) (L : Nat → Nat) : Nat → Option (Nat × Nat)
  | 0 => none
  | k + 1 => match clO P L k with
    | some c => some c
    | none => (clA P L k).map fun b => (b, 3 + k)
def fndO (P : Nat → α) (L : Nat → Nat) (k : Nat) (q : α) : Option Nat := ((bts k).find? fun b => decide (P b = q)).map L
end
end G
set_option Elab.async false
set_option linter.all false
set_option maxRecDepth 100000
set_option maxHeartbeats 1000000
namespace G
open PySem DL
local instance : DL.TabCtx := ⟨[]⟩
end G
set_option Elab.async false
set_option linter.all false
set_option maxRecDepth 100000
set_option maxHeartbeats 1000000
namespace G
open PySem DL
local instance : DL.TabCtx := ⟨[]⟩
theorem ex_ok {a : M PyData} {f : PyData → SM} {d : PyData} {ρ ρ' : Rho} (h : a ρ = .ok (d, ρ')) : exO a f ρ = f d ρ' := by unfold exO; rw [h]
end G
set_option Elab.async false
set_option linter.all false
set_option maxRecDepth 100000
set_option maxHeartbeats 1000000
namespace G
open PySem DL
local instance : DL.TabCtx := ⟨[]⟩
end G
set_option Elab.async false
set_option linter.all false
set_option maxRecDepth 100000
set_option maxHeartbeats 1000000
namespace G
open PySem DL
local instance : DL.TabCtx := ⟨[]⟩
theorem app_ok {i : Nat} {a : M PyData} {d : PyData} {ds : List PyData} {ρ ρ' : Rho} (h0 : ρ[i]? = some (.ow (.list ds))) (ha : a ρ = .ok (d, ρ')) (h1 : ρ'[i]? = some (.ow (.list ds))) (hl : ds.length < LIM) : appO i a ρ = .nx (ρ'.set i (.ow (.list (ds ++ [d])))) := by
  unfold appO
  rw [h0]
  simp only []
  rw [ex_ok ha]
  simp only [h1]
  exact if_pos hl
def prO (m : Nat) (os : List (Option Nat)) (a : Nat) : Nat := os.foldl (fun a o => a * if o.isNone = true then m else 1) a
section
variable {many : Int} {m : Nat} {ss : List Sg} {R : List (List Nat)} {es : List (Str × Int)}
def hmT (m : Nat) (P L : Nat → Nat) (Q K : Nat) : Nat := match clO P L K with
  | some _ => 0
  | none => prO m ((List.range Q).map fun q => fndO P L K q) 1
end
end G
set_option Elab.async false
set_option linter.all false
set_option maxRecDepth 100000
set_option maxHeartbeats 1000000
namespace G
open PySem DL
local instance : DL.TabCtx := ⟨[]⟩
end G
set_option Elab.async false
set_option linter.all false
set_option maxRecDepth 100000
set_option maxHeartbeats 1000000
namespace G
open PySem DL
local instance : DL.TabCtx := ⟨[]⟩
end G
set_option Elab.async false
set_option linter.all false
set_option maxRecDepth 100000
set_option maxHeartbeats 1000000
namespace G
open PySem DL
local instance : DL.TabCtx := ⟨[]⟩
theorem callL_ok {i : Nat} {m : PyData → List PyData → R (PyData × PyData)} {as : M (List PyData)} {ds : List PyData} {d dd dd' : PyData} {ρ : Rho} (h : ρ[i]? = some (.ow dd)) (ha : as ρ = .ok (ds, ρ)) (hm : m dd ds = .ok (d, dd')) : callL i m as ρ = .ok (d, ρ.set i (.ow dd')) := by
  simp [h, ha, hm]
end G
set_option Elab.async false
set_option linter.all false
set_option maxRecDepth 100000
set_option maxHeartbeats 1000000
namespace G
open PySem DL
local instance : DL.TabCtx := ⟨[]⟩
end G
set_option Elab.async false
set_option linter.all false
set_option maxRecDepth 100000
set_option maxHeartbeats 1000000
namespace G
open PySem DL
local instance : DL.TabCtx := ⟨[]⟩
end G
set_option Elab.async false
set_option linter.all false
set_option maxRecDepth 100000
set_option maxHeartbeats 1000000
namespace G
open PySem DL
local instance : DL.TabCtx := ⟨[]⟩
theorem seq_ex {f g : SM} {ρ ρ1 : Rho} {Q : Rho → Prop} (h : f ρ = .nx ρ1) (k : ∃ ρ', g ρ1 = .nx ρ' ∧ Q ρ') : ∃ ρ', seqO f g ρ = .nx ρ' ∧ Q ρ' := by rw [seq_nx h]; exact k
theorem one_ex {f : SM} {ρ ρ1 : Rho} {Q : Rho → Prop} (h : f ρ = .nx ρ1) (k : Q ρ1) : ∃ ρ', f ρ = .nx ρ' ∧ Q ρ' := ⟨_, h, k⟩
end G
set_option Elab.async false
set_option linter.all false
set_option maxRecDepth 100000
set_option maxHeartbeats 1000000
namespace G
open PySem DL
local instance : DL.TabCtx := ⟨[]⟩
end G
set_option Elab.async false
set_option linter.all false
set_option maxRecDepth 100000
set_option maxHeartbeats 1000000
namespace G
open PySem DL
local instance : DL.TabCtx := ⟨[]⟩
end G
set_option Elab.async false
set_option linter.all false
set_option maxRecDepth 100000
set_option maxHeartbeats 1000000
namespace G
open PySem DL
local instance : DL.TabCtx := ⟨[]⟩
abbrev Sh (d : PyData) : Prop := SeqAt.shaped d = true
theorem lay_mem : ∀ {xs : List PyData}, PyData.canLayAll0 xs = true → ∀ x ∈ xs, x.canLay0 = true
  | x :: xs, h, y, hy => by
    have h' : (PyData.canLay0 x && PyData.canLayAll0 xs) = true := h
    rw [Bool.and_eq_true] at h'
    rcases List.mem_cons.mp hy with rfl | hy
    · exact h'.1
    · exact lay_mem h'.2 y hy
theorem depth_mem : ∀ {xs : List PyData}, ∀ x ∈ xs, x.depth ≤ PyData.depthAll xs
  | x :: xs, y, hy => by
    simp only [PyData.depthAll]
    rcases List.mem_cons.mp hy with rfl | hy
    · omega
    · have := depth_mem y hy; omega
theorem Sh.mem {xs : List PyData} (h : Sh (.tuple xs)) : ∀ x ∈ xs, Sh x := fun x hx => by
  unfold Sh SeqAt.shaped at h ⊢
  rw [Bool.and_eq_true, decide_eq_true_iff, PyData.canLay0, PyData.depth] at h
  rw [Bool.and_eq_true, decide_eq_true_iff]
  exact ⟨lay_mem h.1 x hx, Nat.le_trans (depth_mem x hx) (by omega)⟩
def inR (many : Int) : PyData → Bool
  | .int i => decide (0 ≤ i) && decide (i ≤ many - 1)
  | _ => false
def inN (nm : List Str) : PyData → Bool
  | .str s => nm.any (· == s)
  | _ => false
def W (nm : List Str) (many : Int) : Nat → PyData → Bool
  | 0, _ => false
  | _ + 1, .tuple [.str s] => s == "one"
  | n + 1, .tuple [.str s, a] => s == "not" && W nm many n a
  | n + 1, .tuple [.str s, a, b] => if s = "sings" then inN nm a && inR many b else s == "both" && (W nm many n a && W nm many n b)
  | _ + 1, _ => false
end G
set_option Elab.async false
set_option linter.all false
set_option maxRecDepth 100000
set_option maxHeartbeats 1000000
namespace G
open PySem DL
local instance : DL.TabCtx := ⟨[]⟩
end G
set_option Elab.async false
set_option linter.all false
set_option maxRecDepth 100000
set_option maxHeartbeats 1000000
namespace G
open PySem DL
local instance : DL.TabCtx := ⟨[]⟩
end G
set_option Elab.async false
set_option linter.all false
set_option maxRecDepth 100000
set_option maxHeartbeats 1000000
namespace G
open PySem DL
local instance : DL.TabCtx := ⟨[]⟩
end G
set_option Elab.async false
set_option linter.all false
set_option maxRecDepth 100000
set_option maxHeartbeats 1000000
namespace G
open PySem DL
local instance : DL.TabCtx := ⟨[]⟩
end G
set_option Elab.async false
set_option linter.all false
set_option maxRecDepth 100000
set_option maxHeartbeats 1000000
namespace G
open PySem DL
local instance : DL.TabCtx := ⟨[]⟩
end G
set_option Elab.async false
set_option linter.all false
set_option maxRecDepth 100000
set_option maxHeartbeats 1000000
namespace G
open PySem DL
local instance : DL.TabCtx := ⟨[]⟩
end G
set_option Elab.async false
set_option linter.all false
set_option maxRecDepth 100000
set_option maxHeartbeats 1000000
namespace G
open PySem DL
local instance : DL.TabCtx := ⟨[]⟩
def lookL (xs : List (Nat × Str × Nat)) (b : Nat) (x : Str) : Option Nat := (xs.find? fun q => decide (q.1 = b ∧ q.2.1 = x)).map (·.2.2)
def ldOf (L : List Str) (t : List Nat) (x : Str) : Option Nat := ((L.zip t).find? fun p => decide (p.1 = x)).map (·.2)
def ldC (L : List Str) (t : List Nat) : Nat → Str → Option Nat := fun _ => ldOf L t
section
variable {many : Int} {m : Nat} {ss : List Sg} {st : List (List Nat)}
def nx (m : Nat) (ss : List Sg) (L : List Str) (st : List (List Nat)) (t : List Nat) : List (List Nat) := beh st (lrow m ss (ldC L t) 0 st)
end
end G
set_option Elab.async false
set_option linter.all false
set_option maxRecDepth 100000
set_option maxHeartbeats 1000000
namespace G
open PySem DL
local instance : DL.TabCtx := ⟨[]⟩
section
variable {many : Int} {m : Nat} {ss : List Sg} {st : List (List Nat)} {L : List Str}
abbrev St := List (List Nat)
end
end G
set_option Elab.async false
set_option linter.all false
set_option maxRecDepth 100000
set_option maxHeartbeats 1000000
namespace G
open PySem DL
local instance : DL.TabCtx := ⟨[]⟩
def fresh : List St → List St → List St
  | _, [] => []
  | F, s :: R => if s ∈ F then fresh F R else s :: fresh (F ++ [s]) R
end G
set_option Elab.async false
set_option linter.all false
set_option maxRecDepth 100000
set_option maxHeartbeats 1000000
namespace G
open PySem DL
local instance : DL.TabCtx := ⟨[]⟩
def foldE {α σ β : Type} (f : α → σ → β ⊕ σ) : List α → σ → β ⊕ σ
  | [], c => .inr c
  | a :: xs, c => match f a c with
    | .inl q => .inl q
    | .inr c' => foldE f xs c'
abbrev Pth := List (List Nat)
section
variable (good : St → List Nat → Bool) (nxt : St → List Nat → St) (T : List (List Nat))
def scan1 (p : Pth) (s : St) (t : List Nat) (c : List St × List (Pth × St)) : Pth ⊕ (List St × List (Pth × St)) :=
  if good s t = true then .inl (p ++ [t]) else if nxt s t ∈ c.1 then .inr c else .inr (c.1 ++ [nxt s t], c.2 ++ [(p ++ [t], nxt s t)])
def lvl (H : List (Pth × St)) (c : List St × List (Pth × St)) : Pth ⊕ (List St × List (Pth × St)) := foldE (fun e c => foldE (scan1 good nxt e.1 e.2) T c) H c
variable (P : St → Prop) (st : St)
variable {good nxt T P st}
end
end G
set_option Elab.async false
set_option linter.all false
set_option maxRecDepth 100000
set_option maxHeartbeats 1000000
namespace G
open PySem DL
local instance : DL.TabCtx := ⟨[]⟩
end G
set_option Elab.async false
set_option linter.all false
set_option maxRecDepth 100000
set_option maxHeartbeats 1000000
namespace G
open PySem DL
local instance : DL.TabCtx := ⟨[]⟩
end G
set_option Elab.async false
set_option linter.all false
set_option maxRecDepth 100000
set_option maxHeartbeats 1000000
namespace G
open PySem DL
local instance : DL.TabCtx := ⟨[]⟩
section
variable {many : Int} {m : Nat} {ss tt : List Sg} {st : St} {xs : List (Nat × Str × Nat)}
theorem look_some {q : Nat × Str × Nat} (hq : q ∈ xs) : ∃ q' ∈ xs, lookL xs q.1 q.2.1 = some q'.2.2 := by
  unfold lookL
  cases e : xs.find? fun q' => decide (q'.1 = q.1 ∧ q'.2.1 = q.2.1) with
  | none =>
    have := List.find?_eq_none.mp e q hq
    simp at this
  | some q' => exact ⟨q', List.mem_of_find?_eq_some e, rfl⟩
end
end G
set_option Elab.async false
set_option linter.all false
set_option maxRecDepth 100000
set_option maxHeartbeats 1000000
namespace G
open PySem DL
local instance : DL.TabCtx := ⟨[]⟩
structure GLs (names L : List Str) : Prop where
  len : L.length ≤ 2
  sub : ∀ x ∈ L, x ∈ names
  pw : L.Pairwise fun a b => SrtQ.ltS a b = true
theorem GLs.nodup {names L : List Str} (h : GLs names L) : L.Nodup := h.pw.imp fun {a b} h1 z => by
  rw [z, SrtQ.ltS_irrefl] at h1; cases h1
end G
set_option Elab.async false
set_option linter.all false
set_option maxRecDepth 100000
set_option maxHeartbeats 1000000
namespace G
open PySem DL
local instance : DL.TabCtx := ⟨[]⟩
open PySem.W (keyToks keyToksAll alike alikeAll dataLe)
end G
set_option Elab.async false
set_option linter.all false
set_option maxRecDepth 100000
set_option maxHeartbeats 1000000
namespace G
open PySem DL
local instance : DL.TabCtx := ⟨[]⟩
section
variable (good : St → List Nat → Bool) (nxt : St → List Nat → St) (T : List (List Nat))
abbrev KX := List St × List (Pth × St)
variable {good nxt T}
end
end G
set_option Elab.async false
set_option linter.all false
set_option maxRecDepth 100000
set_option maxHeartbeats 1000000
namespace G
open PySem DL
local instance : DL.TabCtx := ⟨[]⟩
end G
set_option Elab.async false
set_option linter.all false
set_option maxRecDepth 100000
set_option maxHeartbeats 1000000
namespace G
open PySem DL
local instance : DL.TabCtx := ⟨[]⟩
section
variable {good : St → List Nat → Bool} {nxt : St → List Nat → St} {T : List (List Nat)} {P : St → Prop} {st : St} {fl : List Nat → List Nat}
structure DI (nxt : St → List Nat → St) (T : List (List Nat)) (P : St → Prop) (st : St) (fl : List Nat → List Nat) (d : Nat) (H : List (Pth × St)) (K : List St) : Prop where
  hd : ∀ e ∈ H, e.1.length ≤ d
  sc : ∀ w ∈ K, w = st ∨ ∃ s, P s ∧ ∃ t ∈ T, w = nxt s t ∧ ∀ u ∈ T, nxt s u ∈ K
  ln : 2 * d + 1 ≤ K.length ∨ (2 * d ≤ K.length ∧ ∃ s, P s ∧ ∃ t ∈ T, nxt s t ∈ K ∧ nxt s (fl t) = st)
end
end G
set_option Elab.async false
set_option linter.all false
set_option maxRecDepth 100000
set_option maxHeartbeats 1000000
namespace G
open PySem DL
local instance : DL.TabCtx := ⟨[]⟩
end G
set_option Elab.async false
set_option linter.all false
set_option maxRecDepth 100000
set_option maxHeartbeats 1000000
namespace G
open PySem DL
local instance : DL.TabCtx := ⟨[]⟩
end G
set_option Elab.async false
set_option linter.all false
set_option maxRecDepth 100000
set_option maxHeartbeats 1000000
namespace G
open PySem DL
local instance : DL.TabCtx := ⟨[]⟩
end G
set_option Elab.async false
set_option linter.all false
set_option maxRecDepth 100000
set_option maxHeartbeats 1000000
namespace G
open PySem DL
local instance : DL.TabCtx := ⟨[]⟩
open PySem.W (alike alikeAll)
end G
set_option Elab.async false
set_option linter.all false
set_option maxRecDepth 100000
set_option maxHeartbeats 1000000
namespace G
open PySem DL
local instance : DL.TabCtx := ⟨[]⟩
abbrev C26 : PyData := .tuple [.int 2, .tuple [.tuple [.str "ann", .tuple [], .tuple [.int 0]]]]
abbrev S26 : PyData := .tuple [.tuple [.int 0, .int 0, .int 0]]
abbrev W26 (s : Int × Int) (r : Int) : Rho := [.no, .ow (dcD s), .sh (.int r), .sh C26, .sh S26, .no, .no, .no]
theorem m26_1 (s : Int × Int) : b_law_M (W26 s 1) = .nx (W26 s 1) := by kernel_rfl
theorem m26_2 (s : Int × Int) : b_law_M (W26 s 2) = .nx (W26 s 2) := by kernel_rfl
theorem m26_3 (s : Int × Int) : b_law_M (W26 s 3) = .nx (W26 s 3) := by kernel_rfl
theorem m26_4 (s : Int × Int) : b_law_M (W26 s 4) = .nx (W26 s 4) := by kernel_rfl
theorem m26_5 (s : Int × Int) : b_law_M (W26 s 5) = .nx (W26 s 5) := by kernel_rfl
theorem m26_6 (s : Int × Int) : b_law_M (W26 s 6) = .nx (W26 s 6) := by kernel_rfl
theorem m26_7 (s : Int × Int) : b_law_M (W26 s 7) = .nx (W26 s 7) := by kernel_rfl
theorem m26_8 (s : Int × Int) : b_law_M (W26 s 8) = .nx (W26 s 8) := by kernel_rfl
theorem m26_9 (s : Int × Int) : b_law_M (W26 s 9) = .nx (W26 s 9) := by kernel_rfl
theorem k26_main (c : Int) : ∃ ρ', b_law (init law_n law_di c) = .nx ρ' ∧ ρ'.length = law_n := by
  obtain ⟨q, s1, k1, k2, k3⟩ := roll_ex (c, 0) 9 (by decide) (by decide)
  have hM : b_law_M (W26 s1 (1 + q)) = .nx (W26 s1 (1 + q)) := by
    have : q = 0 ∨ q = 1 ∨ q = 2 ∨ q = 3 ∨ q = 4 ∨ q = 5 ∨ q = 6 ∨ q = 7 ∨ q = 8 := by omega
    rcases this with rfl | rfl | rfl | rfl | rfl | rfl | rfl | rfl | rfl
    · exact m26_1 s1
    · exact m26_2 s1
    · exact m26_3 s1
    · exact m26_4 s1
    · exact m26_5 s1
    · exact m26_6 s1
    · exact m26_7 s1
    · exact m26_8 s1
    · exact m26_9 s1
  have ga : gAdd (.int 1) (.int q) = some (.int (1 + q)) := e_add
  have gm : ∀ {r C : PyData}, unT (gsC (setS 2) (gsC (setS 3) gsN)) (.tuple [r, C]) [.no, .ow (dcD s1), .no, .no, .no, .no, .no, .no] = .ok [.no, .ow (dcD s1), .sh r, .sh C, .no, .no, .no, .no] := rfl
  show ∃ ρ', b_law [.no, .ow (dcD (c, 0)), .no, .no, .no, .no, .no, .no] = .nx ρ' ∧ ρ'.length = law_n
  rw [b_law]
  refine seq_ex (asg_gm (opA_ok (z := .tuple [.int (1 + q), C26]) (aC_ok (op2_ok cD_ok (callL_ok (dd := dcD (c, 0)) rfl (aC1 cD_ok) k1) ga) (aC1 (opA_ok (aC_ok cD_ok (aC1 (opA_ok (aC1 (opA_ok (aC_ok cD_ok (aC_ok (opA_ok aN_ok rfl) (aC1 (opA_ok (aC1 cD_ok) rfl)))) rfl)) rfl))) rfl))) rfl) gm) ?_
  refine seq_ex (asg_set (d := S26) (opA_ok (aC1 (opA_ok (aC_ok cD_ok (aC_ok cD_ok (aC1 cD_ok))) rfl)) rfl) (by simp)) ?_
  simp only [List.set_cons_zero, List.set_cons_succ]
  exact one_ex hM rfl
end G
namespace Law
theorem main : ∀ c : Int, ∃ ρ', G.b_law (DL.init G.law_n G.law_di c) = .nx ρ' ∧ ρ'.length = G.law_n := G.k26_main
end Law
set_option maxHeartbeats 0
namespace Head
open PySem PySem.Spec PyProof.Rows L2 DL G
theorem facts {K : PySem.W.Frag} {h : Heap} {mg : Str → Option Value} (X : K.In h) (G : h.Ns mainGlobals mg) (c : He.SaysD fa fn K) : Tx K mg where
  f_is_whole := c.def_ 0 (d := d_is_whole) rfl
  g_is_whole := He.glo_ok X G (c.fact 0 (f := .glo "is_whole") rfl)
  f_is_word := c.def_ 1 (d := d_is_word) rfl
  g_is_word := He.glo_ok X G (c.fact 1 (f := .glo "is_word") rfl)
  f_rise := c.def_ 2 (d := d_rise) rfl
  g_rise := He.glo_ok X G (c.fact 2 (f := .glo "rise") rfl)
  f_are_lines := c.def_ 3 (d := d_are_lines) rfl
  g_are_lines := He.glo_ok X G (c.fact 3 (f := .glo "are_lines") rfl)
  f_is_ear := c.def_ 4 (d := d_is_ear) rfl
  g_is_ear := He.glo_ok X G (c.fact 4 (f := .glo "is_ear") rfl)
  f_are_ears := c.def_ 5 (d := d_are_ears) rfl
  g_are_ears := He.glo_ok X G (c.fact 5 (f := .glo "are_ears") rfl)
  f_places_for := c.def_ 6 (d := d_places_for) rfl
  g_places_for := He.glo_ok X G (c.fact 6 (f := .glo "places_for") rfl)
  f_is_singer := c.def_ 7 (d := d_is_singer) rfl
  g_is_singer := He.glo_ok X G (c.fact 7 (f := .glo "is_singer") rfl)
  f_is_choir := c.def_ 8 (d := d_is_choir) rfl
  g_is_choir := He.glo_ok X G (c.fact 8 (f := .glo "is_choir") rfl)
  f_need_choir := c.def_ 9 (d := d_need_choir) rfl
  g_need_choir := He.glo_ok X G (c.fact 9 (f := .glo "need_choir") rfl)
  f_all_names := c.def_ 10 (d := d_all_names) rfl
  g_all_names := He.glo_ok X G (c.fact 10 (f := .glo "all_names") rfl)
  f_names := c.def_ 11 (d := d_names) rfl
  g_names := He.glo_ok X G (c.fact 11 (f := .glo "names") rfl)
  f_is_good_standing := c.def_ 12 (d := d_is_good_standing) rfl
  g_is_good_standing := He.glo_ok X G (c.fact 12 (f := .glo "is_good_standing") rfl)
  f_need_standing := c.def_ 13 (d := d_need_standing) rfl
  g_need_standing := He.glo_ok X G (c.fact 13 (f := .glo "need_standing") rfl)
  f_need_name := c.def_ 14 (d := d_need_name) rfl
  g_need_name := He.glo_ok X G (c.fact 14 (f := .glo "need_name") rfl)
  f_number_of := c.def_ 15 (d := d_number_of) rfl
  g_number_of := He.glo_ok X G (c.fact 15 (f := .glo "number_of") rfl)
  f_heard_by := c.def_ 16 (d := d_heard_by) rfl
  g_heard_by := He.glo_ok X G (c.fact 16 (f := .glo "heard_by") rfl)
  f_place_of := c.def_ 17 (d := d_place_of) rfl
  g_place_of := He.glo_ok X G (c.fact 17 (f := .glo "place_of") rfl)
  f_table_line := c.def_ 18 (d := d_table_line) rfl
  g_table_line := He.glo_ok X G (c.fact 18 (f := .glo "table_line") rfl)
  f_all_next := c.def_ 19 (d := d_all_next) rfl
  g_all_next := He.glo_ok X G (c.fact 19 (f := .glo "all_next") rfl)
  f_behind := c.def_ 20 (d := d_behind) rfl
  g_behind := He.glo_ok X G (c.fact 20 (f := .glo "behind") rfl)
  f_on := c.def_ 21 (d := d_on) rfl
  g_on := He.glo_ok X G (c.fact 21 (f := .glo "on") rfl)
  f_need_stretch := c.def_ 22 (d := d_need_stretch) rfl
  g_need_stretch := He.glo_ok X G (c.fact 22 (f := .glo "need_stretch") rfl)
  f_need_asked_2 := c.def_ 23 (d := d_need_asked_2) rfl
  g_need_asked_2 := He.glo_ok X G (c.fact 23 (f := .glo "need_asked") rfl)
  f_place_at := c.def_ 24 (d := d_place_at) rfl
  g_place_at := He.glo_ok X G (c.fact 24 (f := .glo "place_at") rfl)
  f_slip_of := c.def_ 25 (d := d_slip_of) rfl
  g_slip_of := He.glo_ok X G (c.fact 25 (f := .glo "slip_of") rfl)
  f_fits := c.def_ 26 (d := d_fits) rfl
  g_fits := He.glo_ok X G (c.fact 26 (f := .glo "fits") rfl)
  f_asked_of := c.def_ 27 (d := d_asked_of) rfl
  g_asked_of := He.glo_ok X G (c.fact 27 (f := .glo "asked_of") rfl)
  f_own_ears := c.def_ 28 (d := d_own_ears) rfl
  g_own_ears := He.glo_ok X G (c.fact 28 (f := .glo "own_ears") rfl)
  f_tables := c.def_ 29 (d := d_tables) rfl
  g_tables := He.glo_ok X G (c.fact 29 (f := .glo "tables") rfl)
  f_do_count := c.def_ 30 (d := d_do_count) rfl
  g_do_count := He.glo_ok X G (c.fact 30 (f := .glo "do_count") rfl)
  f_ears_that_count := c.def_ 31 (d := d_ears_that_count) rfl
  g_ears_that_count := He.glo_ok X G (c.fact 31 (f := .glo "ears_that_count") rfl)
  f_counting := c.def_ 32 (d := d_counting) rfl
  g_counting := He.glo_ok X G (c.fact 32 (f := .glo "counting") rfl)
  f_lean_singer := c.def_ 33 (d := d_lean_singer) rfl
  g_lean_singer := He.glo_ok X G (c.fact 33 (f := .glo "lean_singer") rfl)
  f_leaned := c.def_ 34 (d := d_leaned) rfl
  g_leaned := He.glo_ok X G (c.fact 34 (f := .glo "leaned") rfl)
  f_need_first_rows := c.def_ 35 (d := d_need_first_rows) rfl
  g_need_first_rows := He.glo_ok X G (c.fact 35 (f := .glo "need_first_rows") rfl)
  f_spots_for := c.def_ 36 (d := d_spots_for) rfl
  g_spots_for := He.glo_ok X G (c.fact 36 (f := .glo "spots_for") rfl)
  f_lines_for := c.def_ 37 (d := d_lines_for) rfl
  g_lines_for := He.glo_ok X G (c.fact 37 (f := .glo "lines_for") rfl)
  f_widened := c.def_ 38 (d := d_widened) rfl
  g_widened := He.glo_ok X G (c.fact 38 (f := .glo "widened") rfl)
  f_all_known := c.def_ 39 (d := d_all_known) rfl
  g_all_known := He.glo_ok X G (c.fact 39 (f := .glo "all_known") rfl)
  f_as_standing := c.def_ 40 (d := d_as_standing) rfl
  g_as_standing := He.glo_ok X G (c.fact 40 (f := .glo "as_standing") rfl)
  f_must_begin := c.def_ 41 (d := d_must_begin) rfl
  g_must_begin := He.glo_ok X G (c.fact 41 (f := .glo "must_begin") rfl)
  f_need_both := c.def_ 42 (d := d_need_both) rfl
  g_need_both := He.glo_ok X G (c.fact 42 (f := .glo "need_both") rfl)
  f_need_beats := c.def_ 43 (d := d_need_beats) rfl
  g_need_beats := He.glo_ok X G (c.fact 43 (f := .glo "need_beats") rfl)
  f_rows_of := c.def_ 44 (d := d_rows_of) rfl
  g_rows_of := He.glo_ok X G (c.fact 44 (f := .glo "rows_of") rfl)
  f_song := c.def_ 45 (d := d_song) rfl
  g_song := He.glo_ok X G (c.fact 45 (f := .glo "song") rfl)
  f_walked := c.def_ 46 (d := d_walked) rfl
  g_walked := He.glo_ok X G (c.fact 46 (f := .glo "walked") rfl)
  f_round_of := c.def_ 47 (d := d_round_of) rfl
  g_round_of := He.glo_ok X G (c.fact 47 (f := .glo "round_of") rfl)
  f_is_lead := c.def_ 48 (d := d_is_lead) rfl
  g_is_lead := He.glo_ok X G (c.fact 48 (f := .glo "is_lead") rfl)
  f_need_leads := c.def_ 49 (d := d_need_leads) rfl
  g_need_leads := He.glo_ok X G (c.fact 49 (f := .glo "need_leads") rfl)
  f_led_lines := c.def_ 50 (d := d_led_lines) rfl
  g_led_lines := He.glo_ok X G (c.fact 50 (f := .glo "led_lines") rfl)
  f_led_rows := c.def_ 51 (d := d_led_rows) rfl
  g_led_rows := He.glo_ok X G (c.fact 51 (f := .glo "led_rows") rfl)
  f_led_song := c.def_ 52 (d := d_led_song) rfl
  g_led_song := He.glo_ok X G (c.fact 52 (f := .glo "led_song") rfl)
  f_singer_text := c.def_ 53 (d := d_singer_text) rfl
  g_singer_text := He.glo_ok X G (c.fact 53 (f := .glo "singer_text") rfl)
  f_choir_text := c.def_ 54 (d := d_choir_text) rfl
  g_choir_text := He.glo_ok X G (c.fact 54 (f := .glo "choir_text") rfl)
  f_figures_in := c.def_ 55 (d := d_figures_in) rfl
  g_figures_in := He.glo_ok X G (c.fact 55 (f := .glo "figures_in") rfl)
  f_ear_in := c.def_ 56 (d := d_ear_in) rfl
  g_ear_in := He.glo_ok X G (c.fact 56 (f := .glo "ear_in") rfl)
  f_singer_in := c.def_ 57 (d := d_singer_in) rfl
  g_singer_in := He.glo_ok X G (c.fact 57 (f := .glo "singer_in") rfl)
  f_read_choir := c.def_ 58 (d := d_read_choir) rfl
  g_read_choir := He.glo_ok X G (c.fact 58 (f := .glo "read_choir") rfl)
  f_is_good_wish := c.def_ 59 (d := d_is_good_wish) rfl
  g_is_good_wish := He.glo_ok X G (c.fact 59 (f := .glo "is_good_wish") rfl)
  f_need_wish := c.def_ 60 (d := d_need_wish) rfl
  g_need_wish := He.glo_ok X G (c.fact 60 (f := .glo "need_wish") rfl)
  f_holds := c.def_ 61 (d := d_holds) rfl
  g_holds := He.glo_ok X G (c.fact 61 (f := .glo "holds") rfl)
  f_granted := c.def_ 62 (d := d_granted) rfl
  g_granted := He.glo_ok X G (c.fact 62 (f := .glo "granted") rfl)
  f_law_cell := c.def_ 63 (d := d_law_cell) rfl
  g_law_cell := He.glo_ok X G (c.fact 63 (f := .glo "_law_cell") rfl)
  f_law_drawn := c.def_ 64 (d := d_law_drawn) rfl
  g_law_drawn := He.glo_ok X G (c.fact 64 (f := .glo "_law_drawn") rfl)
  f_law_roll := c.def_ 65 (d := d_law_roll) rfl
  g_law_roll := He.glo_ok X G (c.fact 65 (f := .glo "_law_roll") rfl)
  f_law_rounds := c.def_ 66 (d := d_law_rounds) rfl
  g_law_rounds := He.glo_ok X G (c.fact 66 (f := .glo "_law_rounds") rfl)
  f_law_met := c.def_ 67 (d := d_law_met) rfl
  g_law_met := He.glo_ok X G (c.fact 67 (f := .glo "_law_met") rfl)
  f_law_alone := c.def_ 68 (d := d_law_alone) rfl
  g_law_alone := He.glo_ok X G (c.fact 68 (f := .glo "_law_alone") rfl)
  f_law := c.def_ 69 (d := d_law) rfl
  g_law := He.glo_ok X G (c.fact 69 (f := .glo "law") rfl)
  f_Clash_init := c.def_ 70 (d := d_Clash_init) rfl
  k_Clash := He.glo_ok X G (c.fact 78 (f := .glo "Clash") rfl)
  x_SongError := ⟨He.glo_ok X G (c.fact 70 (f := .glo "SongError") rfl), He.exc_ok (c.fact 82 (f := .exc "SongError") rfl)⟩
  x_BadChoir := ⟨He.glo_ok X G (c.fact 71 (f := .glo "BadChoir") rfl), He.exc_ok (c.fact 83 (f := .exc "BadChoir") rfl)⟩
  x_BadName := ⟨He.glo_ok X G (c.fact 72 (f := .glo "BadName") rfl), He.exc_ok (c.fact 84 (f := .exc "BadName") rfl)⟩
  x_BadStanding := ⟨He.glo_ok X G (c.fact 73 (f := .glo "BadStanding") rfl), He.exc_ok (c.fact 85 (f := .exc "BadStanding") rfl)⟩
  x_BadNumber := ⟨He.glo_ok X G (c.fact 74 (f := .glo "BadNumber") rfl), He.exc_ok (c.fact 86 (f := .exc "BadNumber") rfl)⟩
  x_BadRows := ⟨He.glo_ok X G (c.fact 75 (f := .glo "BadRows") rfl), He.exc_ok (c.fact 87 (f := .exc "BadRows") rfl)⟩
  x_BadLead := ⟨He.glo_ok X G (c.fact 76 (f := .glo "BadLead") rfl), He.exc_ok (c.fact 88 (f := .exc "BadLead") rfl)⟩
  x_BadWish := ⟨He.glo_ok X G (c.fact 77 (f := .glo "BadWish") rfl), He.exc_ok (c.fact 89 (f := .exc "BadWish") rfl)⟩
  x_Nothing := ⟨He.glo_ok X G (c.fact 79 (f := .glo "Nothing") rfl), He.exc_ok (c.fact 90 (f := .exc "Nothing") rfl)⟩
  x_Full := ⟨He.glo_ok X G (c.fact 80 (f := .glo "Full") rfl), He.exc_ok (c.fact 91 (f := .exc "Full") rfl)⟩
  x_BadText := ⟨He.glo_ok X G (c.fact 81 (f := .glo "BadText") rfl), He.exc_ok (c.fact 92 (f := .exc "BadText") rfl)⟩
  c_SMALL := He.str_ok X G (c.fact 93 (f := .str "SMALL" "abcdefghijklmnopqrstuvwxyz") rfl)
  c_FREE := He.int_ok X G (c.fact 94 (f := .int "FREE" 3) rfl)
  c_MOST_BEGINNINGS := He.int_ok X G (c.fact 95 (f := .int "MOST_BEGINNINGS" 500) rfl)
  c_LONGEST := He.int_ok X G (c.fact 96 (f := .int "LONGEST" 500) rfl)
  c_MOST_AHEAD := He.int_ok X G (c.fact 97 (f := .int "MOST_AHEAD" 20000) rfl)
  c_FIGURES := He.str_ok X G (c.fact 98 (f := .str "FIGURES" "0123") rfl)
  c_DEEPEST := He.int_ok X G (c.fact 99 (f := .int "DEEPEST" 4) rfl)
  z_ValueError := He.free_ok X G (c.fact 100 (f := .free "ValueError") rfl)
  z_all := He.free_ok X G (c.fact 101 (f := .free "all") rfl)
  z_bool := He.free_ok X G (c.fact 102 (f := .free "bool") rfl)
  z_dict := He.free_ok X G (c.fact 103 (f := .free "dict") rfl)
  z_enumerate := He.free_ok X G (c.fact 104 (f := .free "enumerate") rfl)
  z_int := He.free_ok X G (c.fact 105 (f := .free "int") rfl)
  z_isinstance := He.free_ok X G (c.fact 106 (f := .free "isinstance") rfl)
  z_len := He.free_ok X G (c.fact 107 (f := .free "len") rfl)
  z_list := He.free_ok X G (c.fact 108 (f := .free "list") rfl)
  z_max := He.free_ok X G (c.fact 109 (f := .free "max") rfl)
  z_min := He.free_ok X G (c.fact 110 (f := .free "min") rfl)
  z_range := He.free_ok X G (c.fact 111 (f := .free "range") rfl)
  z_set := He.free_ok X G (c.fact 112 (f := .free "set") rfl)
  z_sorted := He.free_ok X G (c.fact 113 (f := .free "sorted") rfl)
  z_str := He.free_ok X G (c.fact 114 (f := .free "str") rfl)
  z_tuple := He.free_ok X G (c.fact 115 (f := .free "tuple") rfl)
  z_zip := He.free_ok X G (c.fact 116 (f := .free "zip") rfl)
end Head
open PySem PySem.W PySem.Calls PyProof.Rows
theorem PySem.Challenge.cw_hearsong_k26_refusals_apart_holds : PySem.Challenge.rw_hearsong_k26_refusals_apart.Holds := by
  w_on; o_law
  refine HandSHeadRun.head_any (r := OpenLaw.row PySem.Challenge.rw_hearsong_k26_refusals_apart) (q := view (OpenLaw.row PySem.Challenge.rw_hearsong_k26_refusals_apart).prog [98]) (H := Head.hk) (ob := Head.ob) (M := 9000) (loose := Head.loose) (d := HandSHeadRun.topDef (OpenLaw.row PySem.Challenge.rw_hearsong_k26_refusals_apart).prog 98) (kwd := []) Head.ob_eq
    (by kernel_rfl) (fun s => by kernel_rfl) Head.run (by kernel_rfl) (by kernel_rfl) (by kernel_rfl) (by kernel_rfl) (by first | assumption | decide +kernel) (by decide +kernel) ⟨by kernel_rfl, by kernel_rfl, by kernel_rfl, by kernel_rfl, by kernel_rfl, by decide +kernel⟩ ?hw ?hc
  case hw => w_witness2
  case hc =>
    refine LamX.walk_ofTsE (l := PySem.Challenge.rw_hearsong_k26_refusals_apart) (n := 63) (k := 15) (x := "script") (CX := fun w => L2N.CX (PySem.Challenge.rw_hearsong_k26_refusals_apart).prog w) rfl (by decide) (by kernel_rfl) ⟨rfl, by decide, by decide⟩ ?F (fun _ _ _ _ _ z => HD.cx_no z)
    intro w mg fa h Y Gn hmg0
    obtain ⟨K, KX, c, LS, ex, ck⟩ := Y
    have hmg : mg ("law" : PySem.Str) = some (.ref fa) := by
      have e : (HandSHeadRun.topDef (OpenLaw.row PySem.Challenge.rw_hearsong_k26_refusals_apart).prog 98).name = ("law" : PySem.Str) := by kernel_rfl
      rw [← e]
      exact hmg0
    have T := Head.facts KX Gn c
    have e := hmg.symm.trans T.g_law
    cases e
    letI : DL.TabCtx := HD.ctxL K G.lams
    obtain ⟨fd, hF, hb⟩ := G.ok_law (P := (PySem.Challenge.rw_hearsong_k26_refusals_apart).prog) (w := w) T ex ck Law.main
    exact ⟨K, KX, fd, HD.codesL K G.lams, DL.spLaw ⟨K, w⟩, fun p hp => (LS.tab p hp).1, fun p hp => (LS.tab p hp).2.1, fun p hp => (LS.tab p hp).2.2, hb, fun H a ns hl _ hH hS => ⟨HD.tabs_start hH, a, ns, rfl, hS, hl, fun _ => rfl⟩, fun base _ _ TB => hF base (HD.lamKs LS TB)⟩
